import PyProof.Rows.All
import Wide.All
import OpenK.AllK
import Wide.FinOn
import HandS.ForMost
import HandS.ForExc
import HandS.TupAny
import HandS.Conv
import HandS.Deep
import HandS.CallSlots
import HandS.Zip
import HandS.Lambda
import HandS.TupMul
import HandS.Wide
import HandS.SortInts
import KE.SortData
import KE.GoesEnum
import KE.GoesMore
import HandS.ExcOwn
import HandS.EndOwn
import HandS.WordsExc
import PySem.Challenge.RW_wreckhouse_k73_whole_reads_through
set_option Elab.async false
set_option linter.all false
set_option maxRecDepth 100000
set_option maxHeartbeats 4000000
/-! DCore: a layer of plain data over the hand layer. -/
namespace DL
open PySem PySem.Spec L2

/-! ### data -/
inductive D where
  | non | bl (b : Bool) | int (i : Int) | str (x : Str)
  | tup (ds : List D) | lst (ds : List D)
  | scr (ns : List Int)
  | wtu (ds : List D)
  | dic (kvs : List (Key × D))
  | dit (kvs : List (List Key × D))
  | obj (C : Addr) (fs : List (Str × D))
  | ref (a : Addr) | ty (n : String)

/-- a tuple that the module's top has written -/
def WrT (K : PySem.W.Frag) (a : Addr) (xs : List V) : Prop := ∃ (o : Obj) (its : Array Value) (n : Nat), K.lookup a = some o ∧ o.cls = .type "tuple" ∧ o.data = .seq its n ∧ its.size ≤ sizeLine ∧ Vals xs its.toList
mutual
inductive Fz (K : PySem.W.Frag) (H : Hp) : V → D → Prop
  | non : Fz K H .non .non
  | bl (b : Bool) : Fz K H (.bl b) (.bl b)
  | int (i : Int) : Fz K H (.int i) (.int i)
  | str (x : Str) : Fz K H (.str x) (.str x)
  | tup {a : Addr} {xs : List V} {ds : List D} : H a = some (.tup xs) → Fzs K H xs ds → Fz K H (.ref a) (.tup ds)
  | wtu {a : Addr} {xs : List V} {ds : List D} : WrT K a xs → Fzs K H xs ds → Fz K H (.ref a) (.wtu ds)
  | lst {a : Addr} {xs : List V} {ds : List D} : H a = some (.lst xs) → Fzs K H xs ds → Fz K H (.ref a) (.lst ds)
  | scr {a : Addr} {ns : List Int} : SqL K H a (ns.map V.int) → Fz K H (.ref a) (.scr ns)
  | dic {a : Addr} {kvs : List (Key × V)} {ds : List (Key × D)} : Rd H a (.dK kvs) → Fzk K H kvs ds → Fz K H (.ref a) (.dic ds)
  | dit {a : Addr} {kvs : List (List Key × V)} {ds : List (List Key × D)} : Rd H a (.dT kvs) → Fzt K H kvs ds → Fz K H (.ref a) (.dit ds)
  | obj {a C dx : Addr} {fs : List (Str × V)} {ds : List (Str × D)} : H a = some (.ins C dx fs) → Fzf K H fs ds → Fz K H (.ref a) (.obj C ds)
  | ref (a : Addr) : Fz K H (.ref a) (.ref a)
  | ty (n : String) : Fz K H (.ty n) (.ty n)
inductive Fzs (K : PySem.W.Frag) (H : Hp) : List V → List D → Prop
  | nil : Fzs K H [] []
  | cons {v : V} {vs : List V} {d : D} {ds : List D} : Fz K H v d → Fzs K H vs ds → Fzs K H (v :: vs) (d :: ds)
inductive Fzk (K : PySem.W.Frag) (H : Hp) : List (Key × V) → List (Key × D) → Prop
  | nil : Fzk K H [] []
  | cons {k : Key} {v : V} {vs : List (Key × V)} {d : D} {ds : List (Key × D)} : Fz K H v d → Fzk K H vs ds → Fzk K H ((k, v) :: vs) ((k, d) :: ds)
inductive Fzt (K : PySem.W.Frag) (H : Hp) : List (List Key × V) → List (List Key × D) → Prop
  | nil : Fzt K H [] []
  | cons {k : List Key} {v : V} {vs : List (List Key × V)} {d : D} {ds : List (List Key × D)} : Fz K H v d → Fzt K H vs ds → Fzt K H ((k, v) :: vs) ((k, d) :: ds)
inductive Fzf (K : PySem.W.Frag) (H : Hp) : List (Str × V) → List (Str × D) → Prop
  | nil : Fzf K H [] []
  | cons {k : Str} {v : V} {vs : List (Str × V)} {d : D} {ds : List (Str × D)} : Fz K H v d → Fzf K H vs ds → Fzf K H ((k, v) :: vs) ((k, d) :: ds)
end

/-! ### a part of the heap -/
def Lk : HO → Prop
  | .dK _ => True
  | .dT _ => True
  | _ => False
/-- F's mark of a table whose code objects bear the name q -/
def tmark (q : Str) : HO := .tbl #[.int (-1) 0, .int 0 0, .str q 0]
theorem tmark_tab {H : Hp} {a : Addr} {q : Str} (h : H a = some (tmark q)) : LamX.TabS H a q := ⟨_, h, trivial, fun pos cv hc => by
  have e : codeAmong pos [.int (-1) 0, .int 0 0, .str q 0] = none := by
    unfold codeAmong
    have : ((-1 : Int) == (pos.line : Int)) = false := by
      first | (simp; done) | (simp; omega)
    first | (simp [this, codeAmong]; done) | simp [this]
  have hc' : codeAmong pos [.int (-1) 0, .int 0 0, .str q 0] = some cv := hc
  rw [e] at hc'
  cases hc'⟩
/-- F is a part of H (a dict may be locked there) -/
def Sub (F H : Hp) : Prop := ∀ a o, F a = some o → H a = some o ∨ (Lk o ∧ ∃ ob, H a = some (.frz ob o)) ∨ ∃ q, o = tmark q ∧ LamX.TabS H a q
theorem Sub.refl (H : Hp) : Sub H H := fun _ _ h => .inl h
theorem Sub.of {F H : Hp} (h : ∀ a o, F a = some o → H a = some o) : Sub F H := fun a o e => .inl (h a o e)
theorem Sub.rd {F H : Hp} (s : Sub F H) {a : Addr} {u : HO} (r : Rd F a u) (hn : ∀ ps, u ≠ .tbl ps := by intro _ h; cases h) : Rd H a u := by
  rcases r with h | ⟨o, h⟩
  · rcases s a u h with h | ⟨_, ob, h⟩ | ⟨q, e, _⟩
    · exact .inl h
    · exact .inr ⟨ob, h⟩
    · exact absurd e (hn _)
  · rcases s a _ h with h | ⟨l, _⟩ | ⟨q, e, _⟩
    · exact .inr ⟨o, h⟩
    · exact l.elim
    · cases e
theorem Sub.sqL {K : PySem.W.Frag} {F H : Hp} (s : Sub F H) {a : Addr} {xs : List V} (r : SqL K F a xs) : SqL K H a xs := by
  rcases r with h | h
  · exact .inl (s.rd h)
  · exact .inr h
theorem Sub.sqT {K : PySem.W.Frag} {F H : Hp} (s : Sub F H) {a : Addr} {xs : List V} (r : SqT K F a xs) : SqT K H a xs := by
  rcases r with h | h
  · exact .inl (s.rd h)
  · exact .inr h
theorem Sub.tup {F H : Hp} (s : Sub F H) {a : Addr} {xs : List V} (h : F a = some (.tup xs)) : H a = some (.tup xs) := by
  rcases s a _ h with h | ⟨l, _⟩ | ⟨q, e, _⟩
  · exact h
  · exact l.elim
  · cases e
theorem Sub.lst {F H : Hp} (s : Sub F H) {a : Addr} {xs : List V} (h : F a = some (.lst xs)) : H a = some (.lst xs) := by
  rcases s a _ h with h | ⟨l, _⟩ | ⟨q, e, _⟩
  · exact h
  · exact l.elim
  · cases e
theorem Sub.ins {F H : Hp} (s : Sub F H) {a C dx : Addr} {fs : List (Str × V)} (h : F a = some (.ins C dx fs)) : H a = some (.ins C dx fs) := by
  rcases s a _ h with h | ⟨l, _⟩ | ⟨q, e, _⟩
  · exact h
  · exact l.elim
  · cases e
theorem Sub.trans {F G H : Hp} (s : ∀ a o, F a = some o → G a = some o) (t : Sub G H) : Sub F H := fun a o h => t a o (s a o h)

mutual
theorem Fz.mono {K : PySem.W.Frag} {F H : Hp} (s : Sub F H) : ∀ {v : V} {d : D}, Fz K F v d → Fz K H v d
  | _, _, .non => .non
  | _, _, .bl b => .bl b
  | _, _, .int i => .int i
  | _, _, .str x => .str x
  | _, _, .tup h r => .tup (s.tup h) (Fzs.mono s r)
  | _, _, .wtu h r => .wtu h (Fzs.mono s r)
  | _, _, .lst h r => .lst (s.lst h) (Fzs.mono s r)
  | _, _, .scr h => .scr (s.sqL h)
  | _, _, .dic h r => .dic (s.rd h) (Fzk.mono s r)
  | _, _, .dit h r => .dit (s.rd h) (Fzt.mono s r)
  | _, _, .obj h r => .obj (s.ins h) (Fzf.mono s r)
  | _, _, .ref a => .ref a
  | _, _, .ty n => .ty n
theorem Fzs.mono {K : PySem.W.Frag} {F H : Hp} (s : Sub F H) : ∀ {v : List V} {d : List D}, Fzs K F v d → Fzs K H v d
  | _, _, .nil => .nil
  | _, _, .cons h r => .cons (Fz.mono s h) (Fzs.mono s r)
theorem Fzk.mono {K : PySem.W.Frag} {F H : Hp} (s : Sub F H) : ∀ {v : List (Key × V)} {d : List (Key × D)}, Fzk K F v d → Fzk K H v d
  | _, _, .nil => .nil
  | _, _, .cons h r => .cons (Fz.mono s h) (Fzk.mono s r)
theorem Fzt.mono {K : PySem.W.Frag} {F H : Hp} (s : Sub F H) : ∀ {v : List (List Key × V)} {d : List (List Key × D)}, Fzt K F v d → Fzt K H v d
  | _, _, .nil => .nil
  | _, _, .cons h r => .cons (Fz.mono s h) (Fzt.mono s r)
theorem Fzf.mono {K : PySem.W.Frag} {F H : Hp} (s : Sub F H) : ∀ {v : List (Str × V)} {d : List (Str × D)}, Fzf K F v d → Fzf K H v d
  | _, _, .nil => .nil
  | _, _, .cons h r => .cons (Fz.mono s h) (Fzf.mono s r)
end
theorem Fzs.length {K : PySem.W.Frag} {H : Hp} : ∀ {v : List V} {d : List D}, Fzs K H v d → v.length = d.length
  | _, _, .nil => rfl
  | _, _, .cons _ r => congrArg (· + 1) r.length
theorem Fzk.length {K : PySem.W.Frag} {H : Hp} : ∀ {v : List (Key × V)} {d : List (Key × D)}, Fzk K H v d → v.length = d.length
  | _, _, .nil => rfl
  | _, _, .cons _ r => congrArg (· + 1) r.length
theorem Fzs.get {K : PySem.W.Frag} {H : Hp} : ∀ {v : List V} {d : List D} {i : Nat} {x : D}, Fzs K H v d → d[i]? = some x → ∃ u, v[i]? = some u ∧ Fz K H u x
  | _, _, i, _, .nil, h => by simp at h
  | _, _, 0, _, .cons a _, h => by cases h; exact ⟨_, rfl, a⟩
  | _, _, i + 1, _, .cons _ r, h => r.get (i := i) (by simpa using h)
theorem Fzs.append {K : PySem.W.Frag} {H : Hp} : ∀ {v v' : List V} {d d' : List D}, Fzs K H v d → Fzs K H v' d' → Fzs K H (v ++ v') (d ++ d')
  | _, _, _, _, .nil, h => h
  | _, _, _, _, .cons a r, h => .cons a (r.append h)
theorem Fzs.set {K : PySem.W.Frag} {H : Hp} {x : V} {y : D} (h : Fz K H x y) : ∀ {v : List V} {d : List D} (i : Nat), Fzs K H v d → Fzs K H (v.set i x) (d.set i y)
  | _, _, i, .nil => by cases i <;> exact .nil
  | _, _, 0, .cons _ r => .cons h r
  | _, _, i + 1, .cons a r => .cons a (Fzs.set h i r)
theorem Fzs.take {K : PySem.W.Frag} {H : Hp} : ∀ {v : List V} {d : List D} (n : Nat), Fzs K H v d → Fzs K H (v.take n) (d.take n)
  | _, _, n, .nil => by simpa using .nil
  | _, _, 0, .cons _ _ => .nil
  | _, _, n + 1, .cons a r => .cons a (r.take n)
theorem Fzs.drop {K : PySem.W.Frag} {H : Hp} : ∀ {v : List V} {d : List D} (n : Nat), Fzs K H v d → Fzs K H (v.drop n) (d.drop n)
  | _, _, n, .nil => by simpa using .nil
  | _, _, 0, .cons a r => .cons a r
  | _, _, n + 1, .cons _ r => by simpa using r.drop n
theorem Fzs.reverse {K : PySem.W.Frag} {H : Hp} : ∀ {v : List V} {d : List D}, Fzs K H v d → Fzs K H v.reverse d.reverse
  | _, _, .nil => .nil
  | _, _, .cons a r => by
    rw [List.reverse_cons, List.reverse_cons]
    exact r.reverse.append (.cons a .nil)
theorem Fzs.of_get {K : PySem.W.Frag} {H : Hp} : ∀ {v : List V} {d : List D}, v.length = d.length → (∀ (i : Nat) x y, v[i]? = some x → d[i]? = some y → Fz K H x y) → Fzs K H v d
  | [], [], _, _ => .nil
  | [], _ :: _, h, _ => by simp at h
  | _ :: _, [], h, _ => by simp at h
  | x :: v, y :: d, h, g => .cons (g 0 x y rfl rfl) (Fzs.of_get (by simpa using h) fun i a b ha hb => g (i + 1) a b (by simpa using ha) (by simpa using hb))

/-! ### values with their owner -/
inductive M where
  | fz (d : D)
  | ml (ds : List D)
  | md (kvs : List (Key × D))
  | mt (kvs : List (List Key × D))
def M.frz : M → D
  | .fz d => d
  | .ml ds => .lst ds
  | .md kvs => .dic kvs
  | .mt kvs => .dit kvs

inductive Ow (K : PySem.W.Frag) (F H : Hp) : V → M → List Addr → Prop
  | fz {v : V} {d : D} : Fz K F v d → Ow K F H v (.fz d) []
  | ml {a : Addr} {xs : List V} {ds : List D} : F a = none → H a = some (.lst xs) → Fzs K F xs ds → Ow K F H (.ref a) (.ml ds) [a]
  | md {a : Addr} {kvs : List (Key × V)} {ds : List (Key × D)} : F a = none → H a = some (.dK kvs) → Fzk K F kvs ds → Ow K F H (.ref a) (.md ds) [a]
  | mt {a : Addr} {kvs : List (List Key × V)} {ds : List (List Key × D)} : F a = none → H a = some (.dT kvs) → Fzt K F kvs ds → Ow K F H (.ref a) (.mt ds) [a]

inductive Slot where
  | un
  | v (m : M)
  | p (x : V) (m : M)
abbrev DSt := List Slot

inductive OwS (K : PySem.W.Frag) (F H : Hp) : St → DSt → List Addr → Prop
  | nil : OwS K F H [] [] []
  | un {x : Option V} {σ : St} {s : DSt} {A : List Addr} : OwS K F H σ s A → OwS K F H (x :: σ) (.un :: s) A
  | v {x : V} {m : M} {σ : St} {s : DSt} {A1 A2 : List Addr} : Ow K F H x m A1 → OwS K F H σ s A2 → OwS K F H (some x :: σ) (.v m :: s) (A1 ++ A2)
  | p {x : V} {m : M} {σ : St} {s : DSt} {A1 A2 : List Addr} : Ow K F H x m A1 → OwS K F H σ s A2 → OwS K F H (some x :: σ) (.p x m :: s) (A1 ++ A2)

inductive OwL (K : PySem.W.Frag) (F H : Hp) : List V → List M → List Addr → Prop
  | nil : OwL K F H [] [] []
  | cons {x : V} {m : M} {xs : List V} {ms : List M} {A1 A2 : List Addr} : Ow K F H x m A1 → OwL K F H xs ms A2 → OwL K F H (x :: xs) (m :: ms) (A1 ++ A2)

/-! ### the frame -/
/-- nothing of ours stands there -/
def Fr (H : Hp) (a : Addr) : Prop := H a = none ∨ ∃ ps, H a = some (.tbl ps)
structure Frm (F H : Hp) (A : List Addr) (F' H' : Hp) (A' : List Addr) : Prop where
  fsub : ∀ a o, F a = some o → F' a = some o
  keep : ∀ a o, H a = some o → a ∉ A → (∀ ps, o ≠ .tbl ps) → H' a = some o
  new : ∀ a ∈ A', a ∈ A ∨ Fr H a
  fnew : ∀ a o, F' a = some o → F a = some o ∨ a ∈ A ∨ Fr H a
  ft : ∀ a ps, F' a = some (.tbl ps) → F a = some (.tbl ps)

/-- nothing of the heap is changed -/
theorem Frm.ext {F H : Hp} {A : List Addr} {F' H' : Hp} {A' : List Addr} (h1 : ∀ a o, F a = some o → F' a = some o) (h2 : ∀ a o, H a = some o → H' a = some o) (h3 : ∀ a ∈ A', a ∈ A ∨ H a = none) (h4 : ∀ a o, F' a = some o → F a = some o ∨ a ∈ A ∨ H a = none) (h5 : ∀ a ps, F' a = some (.tbl ps) → F a = some (.tbl ps) := by exact fun _ _ h => h) : Frm F H A F' H' A' :=
  ⟨h1, fun a o h _ _ => h2 a o h, fun a h => (h3 a h).imp id .inl, fun a o h => (h4 a o h).imp id fun q => q.imp id .inl, h5⟩
theorem Frm.exF {F H : Hp} {A : List Addr} {F' H' : Hp} {A' : List Addr} (h1 : ∀ a o, F a = some o → F' a = some o) (h2 : ∀ a o, H a = some o → H' a = some o) (h3 : ∀ a ∈ A', a ∈ A ∨ Fr H a) (h4 : ∀ a o, F' a = some o → F a = some o ∨ a ∈ A ∨ Fr H a) (h5 : ∀ a ps, F' a = some (.tbl ps) → F a = some (.tbl ps)) : Frm F H A F' H' A' :=
  ⟨h1, fun a o h _ _ => h2 a o h, h3, h4, h5⟩
/-- an object of data -/
def Dt : HO → Prop
  | .lst _ => True
  | .dK _ => True
  | .dT _ => True
  | _ => False
theorem Dt.nt {o : HO} (d : Dt o) : ∀ ps, o ≠ .tbl ps := fun ps e => by subst e; exact d
theorem TabS.upd {H : Hp} {P : Addr} {q : Str} {a : Addr} {o u : HO} (t : LamX.TabS H P q) (h : H a = some o) (d : Dt o) : LamX.TabS (L2.upd H a u) P q := by
  obtain ⟨ps, h1, h2, h3⟩ := t
  refine ⟨ps, ?_, h2, fun pos cv hc => ?_⟩
  · rw [upd_ne (fun e => by subst e; rw [h] at h1; cases h1; exact d)]; exact h1
  · obtain ⟨c, e1, e2⟩ := h3 pos cv hc
    refine ⟨c, e1, ?_⟩
    rw [upd_ne (fun e => by subst e; rw [h] at e2; cases e2; exact d)]; exact e2
/-- F stays a part where an object that is not its own is new, or written -/
theorem Sub.upd {F H : Hp} {a : Addr} {u : HO} (s : Sub F H) (n : F a = none) (h : H a = none ∨ ∃ o, H a = some o ∧ Dt o) : Sub F (L2.upd H a u) := fun b o e => by
  have ne : b ≠ a := fun q => by subst q; rw [n] at e; cases e
  rw [upd_ne ne]
  refine (s b o e).imp id fun q => q.imp id fun ⟨q, e1, t⟩ => ⟨q, e1, ?_⟩
  rcases h with h | ⟨o', h, d⟩
  · exact t.ext fun c oc hc => by rw [upd_ne (fun q => by subst q; rw [h] at hc; cases hc)]; exact hc
  · exact TabS.upd t h d
theorem Sub.fresh {F H : Hp} {a : Addr} (s : Sub F H) (h : H a = none) : F a = none := by
  cases e : F a with
  | none => rfl
  | some o =>
    rcases s a o e with q | ⟨_, _, q⟩ | ⟨_, _, ps, q, _⟩ <;> rw [h] at q <;> cases q
/-- an own object is written -/
theorem Frm.upd {F H : Hp} {a : Addr} {o u : HO} (h : H a = some o) (d : Dt o) : Frm F H [a] F (L2.upd H a u) [a] :=
  ⟨fun _ _ h => h, fun b o hb hn _ => by rw [upd_ne (fun e => hn (by simp [e]))]; exact hb, fun b hb => .inl hb, fun _ _ h => .inl h, fun _ _ h => h⟩
theorem Frm.refl {F H : Hp} {A : List Addr} : Frm F H A F H A := .ext (fun _ _ h => h) (fun _ _ h => h) (fun _ h => .inl h) (fun _ _ h => .inl h)
theorem Frm.weak {F H : Hp} {A : List Addr} {F' H' : Hp} {A' A2 : List Addr} (f : Frm F H A F' H' A') (h : ∀ a ∈ A2, a ∈ A') : Frm F H A F' H' A2 :=
  ⟨f.fsub, f.keep, fun a ha => f.new a (h a ha), f.fnew, f.ft⟩
/-- more may be touched -/
theorem Frm.more {F H : Hp} {A : List Addr} {F' H' : Hp} {A' B B' : List Addr} (f : Frm F H A F' H' A') (h : ∀ a ∈ A, a ∈ B) (h' : ∀ a ∈ B', a ∈ B ∨ Fr H a) : Frm F H B F' H' B' :=
  ⟨f.fsub, fun a o e hb => f.keep a o e fun q => hb (h a q), h', fun a o e => (f.fnew a o e).imp id fun q => q.imp (h a) id, f.ft⟩
/-- what was not there and is there again without us: gone -/
theorem Frm.gone {F H : Hp} {A : List Addr} {F' H' : Hp} {A' : List Addr} (f : Frm F H A F' H' A') {a : Addr} (h : Fr H' a) : a ∈ A ∨ Fr H a := by
  by_cases ha : a ∈ A
  · exact .inl ha
  · cases e : H a with
    | none => exact .inr (.inl e)
    | some o =>
      by_cases ht : ∃ ps, o = .tbl ps
      · obtain ⟨ps, rfl⟩ := ht
        exact .inr (.inr ⟨ps, e⟩)
      · have k := f.keep a o e ha fun ps q => ht ⟨ps, q⟩
        rcases h with h | ⟨ps, h⟩
        · rw [h] at k; cases k
        · rw [h] at k; cases k; exact absurd ⟨ps, rfl⟩ ht
theorem fr_no {H : Hp} {a : Addr} {o : HO} (h : H a = some o) (hn : ∀ ps, o ≠ .tbl ps) : ¬ Fr H a := fun q => by
  rcases q with q | ⟨ps, q⟩
  · rw [h] at q; cases q
  · rw [h] at q; cases q; exact hn ps rfl
/-- one step behind another, B held aside -/
theorem Frm.trans {F H F1 H1 F2 H2 : Hp} {A A1 A2 B : List Addr} (f : Frm F H A F1 H1 (B ++ A1)) (g : Frm F1 H1 A1 F2 H2 A2) : Frm F H A F2 H2 (B ++ A2) := by
  have back : ∀ a, a ∈ A1 ∨ Fr H1 a → a ∈ A ∨ Fr H a := fun a h => by
    rcases h with h | h
    · exact f.new a (List.mem_append_right _ h)
    · exact f.gone h
  refine ⟨fun a o h => g.fsub a o (f.fsub a o h), fun a o h ha hn => ?_, fun a ha => ?_, fun a o h => ?_, fun a ps h => f.ft a ps (g.ft a ps h)⟩
  · refine g.keep a o (f.keep a o h ha hn) (fun h1 => ?_) hn
    rcases f.new a (List.mem_append_right _ h1) with q | q
    · exact ha q
    · exact fr_no h hn q
  · rcases List.mem_append.mp ha with ha | ha
    · exact f.new a (List.mem_append_left _ ha)
    · exact back a (g.new a ha)
  · rcases g.fnew a o h with h | h
    · exact f.fnew a o h
    · exact .inr (back a h)
theorem Frm.trans0 {F H F1 H1 F2 H2 : Hp} {A A1 A2 : List Addr} (f : Frm F H A F1 H1 A1) (g : Frm F1 H1 A1 F2 H2 A2) : Frm F H A F2 H2 A2 := Frm.trans (B := []) f g

section
variable {K : PySem.W.Frag} {F H F' H' : Hp} {A A' B : List Addr} {v : V} {m : M}
theorem Ow.out : ∀ {v : V} {m : M} {B : List Addr}, Ow K F H v m B → ∀ a ∈ B, F a = none ∧ ∃ o, H a = some o ∧ Dt o
  | _, _, _, .fz _, a, h => by cases h
  | _, _, _, .ml n h _, a, ha => by cases ha with
    | head => exact ⟨n, _, h, trivial⟩
    | tail _ q => cases q
  | _, _, _, .md n h _, a, ha => by cases ha with
    | head => exact ⟨n, _, h, trivial⟩
    | tail _ q => cases q
  | _, _, _, .mt n h _, a, ha => by cases ha with
    | head => exact ⟨n, _, h, trivial⟩
    | tail _ q => cases q
theorem Frm.nof (f : Frm F H A F' H' A') {a : Addr} {o : HO} (n : F a = none) (h : H a = some o) (ha : a ∉ A) (hn : ∀ ps, o ≠ .tbl ps := by intro _ h; cases h) : F' a = none := by
  cases e : F' a with
  | none => rfl
  | some o' =>
    rcases f.fnew a o' e with q | q | q
    · rw [n] at q; cases q
    · exact absurd q ha
    · exact absurd q (fr_no h hn)
theorem Ow.keep (f : Frm F H A F' H' A') (w : Ow K F H v m B) (hB : ∀ a ∈ B, a ∉ A) : Ow K F' H' v m B := by
  cases w with
  | fz h => exact .fz (h.mono (Sub.of f.fsub))
  | ml n h r => exact .ml (f.nof n h (hB _ List.mem_cons_self)) (f.keep _ _ h (hB _ List.mem_cons_self) (fun ps e => by cases e)) (r.mono (Sub.of f.fsub))
  | md n h r => exact .md (f.nof n h (hB _ List.mem_cons_self)) (f.keep _ _ h (hB _ List.mem_cons_self) (fun ps e => by cases e)) (r.mono (Sub.of f.fsub))
  | mt n h r => exact .mt (f.nof n h (hB _ List.mem_cons_self)) (f.keep _ _ h (hB _ List.mem_cons_self) (fun ps e => by cases e)) (r.mono (Sub.of f.fsub))
theorem OwS.out : ∀ {σ : St} {s : DSt} {B : List Addr}, OwS K F H σ s B → ∀ a ∈ B, F a = none ∧ ∃ o, H a = some o ∧ Dt o
  | _, _, _, .nil, a, h => by cases h
  | _, _, _, .un r, a, h => r.out a h
  | _, _, _, .v w r, a, h => (List.mem_append.mp h).elim (w.out a) (r.out a)
  | _, _, _, .p w r, a, h => (List.mem_append.mp h).elim (w.out a) (r.out a)
theorem OwL.out : ∀ {xs : List V} {ms : List M} {B : List Addr}, OwL K F H xs ms B → ∀ a ∈ B, F a = none ∧ ∃ o, H a = some o ∧ Dt o
  | _, _, _, .nil, a, h => by cases h
  | _, _, _, .cons w r, a, h => (List.mem_append.mp h).elim (w.out a) (r.out a)
theorem OwS.keep (f : Frm F H A F' H' A') : ∀ {σ : St} {s : DSt} {B : List Addr}, OwS K F H σ s B → (∀ a ∈ B, a ∉ A) → OwS K F' H' σ s B
  | _, _, _, .nil, _ => .nil
  | _, _, _, .un r, h => .un (r.keep f h)
  | _, _, _, .v w r, h => .v (w.keep f fun a q => h a (List.mem_append_left _ q)) (r.keep f fun a q => h a (List.mem_append_right _ q))
  | _, _, _, .p w r, h => .p (w.keep f fun a q => h a (List.mem_append_left _ q)) (r.keep f fun a q => h a (List.mem_append_right _ q))
theorem OwL.keep (f : Frm F H A F' H' A') : ∀ {xs : List V} {ms : List M} {B : List Addr}, OwL K F H xs ms B → (∀ a ∈ B, a ∉ A) → OwL K F' H' xs ms B
  | _, _, _, .nil, _ => .nil
  | _, _, _, .cons w r, h => .cons (w.keep f fun a q => h a (List.mem_append_left _ q)) (r.keep f fun a q => h a (List.mem_append_right _ q))
theorem OwS.length : ∀ {σ : St} {s : DSt} {B : List Addr}, OwS K F H σ s B → σ.length = s.length
  | _, _, _, .nil => rfl
  | _, _, _, .un r => congrArg (· + 1) r.length
  | _, _, _, .v _ r => congrArg (· + 1) r.length
  | _, _, _, .p _ r => congrArg (· + 1) r.length
/-- what is owned may be read as it stands -/
theorem Ow.view (s : Sub F H) (w : Ow K F H v m B) : Fz K H v m.frz := by
  cases w with
  | fz h => exact h.mono s
  | ml _ h r => exact .lst h (r.mono s)
  | md _ h r => exact .dic (.inl h) (r.mono s)
  | mt _ h r => exact .dit (.inl h) (r.mono s)
end
end DL

namespace DL
open PySem PySem.Spec L2

inductive W where
  | val (m : M)
  | slot (i : Nat)
def Slot.m? : Slot → Option M
  | .un => none
  | .v m => some m
  | .p _ m => some m
def Slot.put : Slot → M → Slot
  | .un, _ => .un
  | .v _, m => .v m
  | .p x _, m => .p x m
def Slot.pinned : Slot → Bool
  | .p _ _ => true
  | _ => false
def res (s : DSt) : W → Option D
  | .val m => some m.frz
  | .slot i => match s[i]? with
    | some sl => match sl.m? with
      | some m => some m.frz
      | none => none
    | none => none

inductive WOw (K : PySem.W.Frag) (F H : Hp) (σ : L2.St) : V → W → List Addr → Prop
  | val {v : V} {m : M} {B : List Addr} : Ow K F H v m B → WOw K F H σ v (.val m) B
  | slot {v : V} {i : Nat} : σ[i]? = some (some v) → WOw K F H σ v (.slot i) []
inductive WOws (K : PySem.W.Frag) (F H : Hp) (σ : L2.St) : List V → List W → List Addr → Prop
  | nil : WOws K F H σ [] [] []
  | cons {v : V} {w : W} {vs : List V} {ws : List W} {B1 B2 : List Addr} : WOw K F H σ v w B1 → WOws K F H σ vs ws B2 → WOws K F H σ (v :: vs) (w :: ws) (B1 ++ B2)

abbrev Pay := Option (List (Str × D))
def XPay (K : PySem.W.Frag) (F H : Hp) : Option Addr → Pay → Prop
  | none, none => True
  | some a, some fs => ∃ vs, H a = some (.xd vs) ∧ Fzf K F vs fs
  | _, _ => False

/-- the ground: the written part, what is wished of an exception, and that in data -/
structure ZX where
  K : PySem.W.Frag
  W : WX
  D : Value → Pay → DSt → Prop
  /-- the tables of code objects, each with the name that its objects bear -/
  T : List (Addr × Str)

/-- F's marks are those of T -/
def TbF (T : List (Addr × Str)) (F : Hp) : Prop := (∀ p ∈ T, F p.1 = some (tmark p.2)) ∧ ∀ a ps, F a = some (.tbl ps) → ∃ q, ps = #[.int (-1) 0, .int 0 0, .str q 0] ∧ (a, q) ∈ T
theorem TbF.frm {T : List (Addr × Str)} {F H F' H' : Hp} {A A' : List Addr} (t : TbF T F) (f : Frm F H A F' H' A') : TbF T F' := ⟨fun p hp => f.fsub _ _ (t.1 p hp), fun a ps h => t.2 a ps (f.ft a ps h)⟩
structure ExImp (Z : ZX) (F H : Hp) (A : List Addr) : Prop where
  tb : TbF Z.T F
  im : ∀ (cls : Value) (d : Option Addr) (pl : Pay) (σ' : L2.St) (s' : DSt) (F' H' : Hp) (A' : List Addr),
    Frm F H A F' H' A' → Sub F' H' → OwS Z.K F' H' σ' s' A' → A'.Nodup → XPay Z.K F' H' d pl → Z.D cls pl s' → Z.W cls d σ' H'
theorem ExImp.step {Z : ZX} {F H F' H' : Hp} {A A' : List Addr} (e : ExImp Z F H A) (f : Frm F H A F' H' A') : ExImp Z F' H' A' :=
  ⟨e.tb.frm f, fun cls d pl σ' s' F2 H2 A2 g => e.im cls d pl σ' s' F2 H2 A2 (f.trans0 g)⟩

structure Rel (Z : ZX) (F H : Hp) (σ : L2.St) (s : DSt) (A : List Addr) : Prop where
  sub : Sub F H
  own : OwS Z.K F H σ s A
  nd : A.Nodup
  ex : ExImp Z F H A
structure Out (K : PySem.W.Frag) (F H : Hp) (A : List Addr) (σ : L2.St) (w : W) (s' : DSt) (v : V) (F' H' : Hp) (Av A' : List Addr) : Prop where
  fr : Frm F H A F' H' (Av ++ A')
  sub : Sub F' H'
  wow : WOw K F' H' σ v w Av
  own : OwS K F' H' σ s' A'
  nd : (Av ++ A').Nodup
structure Outs (K : PySem.W.Frag) (F H : Hp) (A : List Addr) (σ : L2.St) (ws : List W) (s' : DSt) (vs : List V) (F' H' : Hp) (Av A' : List Addr) : Prop where
  fr : Frm F H A F' H' (Av ++ A')
  sub : Sub F' H'
  wow : WOws K F' H' σ vs ws Av
  own : OwS K F' H' σ s' A'
  nd : (Av ++ A').Nodup

abbrev TD := DSt → (W → DSt → Prop) → Prop
abbrev TDs := DSt → (List W → DSt → Prop) → Prop
def Lift (Z : ZX) (t : TE) (m : TD) : Prop := ∀ (σ : L2.St) (H F : Hp) (A : List Addr) (s : DSt) (Q : VK) (Qd : W → DSt → Prop), Rel Z F H σ s A → m s Qd →
  (∀ w s' v F' H' Av A', Qd w s' → Out Z.K F H A σ w s' v F' H' Av A' → Q v H') → t σ H Q
def Lifts (Z : ZX) (t : TA) (m : TDs) : Prop := ∀ (σ : L2.St) (H F : Hp) (A : List Addr) (s : DSt) (Q : List V → Hp → Prop) (Qd : List W → DSt → Prop), Rel Z F H σ s A → m s Qd →
  (∀ ws s' vs F' H' Av A', Qd ws s' → Outs Z.K F H A σ ws s' vs F' H' Av A' → Q vs H') → t σ H Q

section
variable {Z : ZX} {K : PySem.W.Frag} {F H F' H' F2 H2 : Hp} {A A' A2 Av B : List Addr} {σ : L2.St} {s s' : DSt} {v : V} {w : W}

theorem WOw.keep (f : Frm F H A F' H' A') (x : WOw K F H σ v w B) (h : ∀ a ∈ B, a ∉ A) : WOw K F' H' σ v w B := by
  cases x with
  | val o => exact .val (o.keep f h)
  | slot e => exact .slot e
theorem WOws.keep (f : Frm F H A F' H' A') : ∀ {vs : List V} {ws : List W} {B : List Addr}, WOws K F H σ vs ws B → (∀ a ∈ B, a ∉ A) → WOws K F' H' σ vs ws B
  | _, _, _, .nil, _ => .nil
  | _, _, _, .cons o r, h => .cons (o.keep f fun a q => h a (List.mem_append_left _ q)) (r.keep f fun a q => h a (List.mem_append_right _ q))
theorem WOw.out (x : WOw K F H σ v w B) : ∀ a ∈ B, F a = none ∧ ∃ o, H a = some o ∧ Dt o := by
  cases x with
  | val o => exact o.out
  | slot e => intro a h; cases h
theorem WOws.out : ∀ {vs : List V} {ws : List W} {B : List Addr}, WOws K F H σ vs ws B → ∀ a ∈ B, F a = none ∧ ∃ o, H a = some o ∧ Dt o
  | _, _, _, .nil, a, h => by cases h
  | _, _, _, .cons w r, a, h => (List.mem_append.mp h).elim (w.out a) (r.out a)
theorem nd_l {A B : List Addr} (h : (A ++ B).Nodup) : A.Nodup := (List.nodup_append.mp h).1
theorem nd_r {A B : List Addr} (h : (A ++ B).Nodup) : B.Nodup := (List.nodup_append.mp h).2.1
theorem nd_x {A B : List Addr} (h : (A ++ B).Nodup) : ∀ a ∈ A, a ∉ B := fun a ha hb => (List.nodup_append.mp h).2.2 a ha a hb rfl
theorem nd_mk {A B : List Addr} (h1 : A.Nodup) (h2 : B.Nodup) (h3 : ∀ a ∈ A, a ∉ B) : (A ++ B).Nodup :=
  List.nodup_append.mpr ⟨h1, h2, fun a ha b hb e => h3 a ha (e ▸ hb)⟩

theorem Out.rel (r : Rel Z F H σ s A) (o : Out Z.K F H A σ w s' v F' H' Av A') : Rel Z F' H' σ s' A' :=
  ⟨o.sub, o.own, nd_r o.nd, r.ex.step (o.fr.weak fun a h => List.mem_append_right _ h)⟩
theorem Outs.rel {ws : List W} {vs : List V} (r : Rel Z F H σ s A) (o : Outs Z.K F H A σ ws s' vs F' H' Av A') : Rel Z F' H' σ s' A' :=
  ⟨o.sub, o.own, nd_r o.nd, r.ex.step (o.fr.weak fun a h => List.mem_append_right _ h)⟩
/-- B held while (F, H, A) goes on: still apart -/
theorem apart {B A A' : List Addr} (hB : ∀ a ∈ B, ∃ o, H a = some o ∧ Dt o) (hx : ∀ a ∈ B, a ∉ A) (f : Frm F H A F' H' A') : ∀ a ∈ B, a ∉ A' := fun a ha h => by
  rcases f.new a h with q | q
  · exact hx a ha q
  · obtain ⟨o, e, d⟩ := hB a ha
    exact fr_no e d.nt q

theorem OwS.get : ∀ {σ : L2.St} {s : DSt} {B : List Addr} {i : Nat} {sl : Slot} {m : M}, OwS K F H σ s B → s[i]? = some sl → sl.m? = some m → ∃ x C, σ[i]? = some (some x) ∧ Ow K F H x m C ∧ ∀ a ∈ C, a ∈ B
  | _, _, _, i, _, _, .nil, h, _ => by simp at h
  | _, _, _, 0, _, _, .un r, h, hm => by cases h; cases hm
  | _, _, _, 0, _, _, .v w r, h, hm => by cases h; cases hm; exact ⟨_, _, rfl, w, fun a h => List.mem_append_left _ h⟩
  | _, _, _, 0, _, _, .p w r, h, hm => by cases h; cases hm; exact ⟨_, _, rfl, w, fun a h => List.mem_append_left _ h⟩
  | _, _, _, i + 1, _, _, .un r, h, hm => OwS.get (i := i) r (by simpa using h) hm
  | _, _, _, i + 1, _, _, .v w r, h, hm => by
    obtain ⟨x, C, e, o, hC⟩ := OwS.get (i := i) r (by simpa using h) hm
    exact ⟨x, C, by simpa using e, o, fun a q => List.mem_append_right _ (hC a q)⟩
  | _, _, _, i + 1, _, _, .p w r, h, hm => by
    obtain ⟨x, C, e, o, hC⟩ := OwS.get (i := i) r (by simpa using h) hm
    exact ⟨x, C, by simpa using e, o, fun a q => List.mem_append_right _ (hC a q)⟩
theorem res_slot {i : Nat} {x : D} (h : res s (.slot i) = some x) : ∃ sl m, s[i]? = some sl ∧ sl.m? = some m ∧ m.frz = x := by
  unfold res at h
  cases e : s[i]? with
  | none => simp [e] at h
  | some sl =>
    cases e2 : sl.m? with
    | none => simp [e, e2] at h
    | some m => simp [e, e2] at h; exact ⟨sl, m, rfl, e2, h⟩
/-- what a value, given by a name or made, is at this state -/
theorem WOw.res (x : WOw K F H σ v w B) (o : OwS K F H σ s A) {d : D} (h : DL.res s w = some d) : ∃ m C, Ow K F H v m C ∧ m.frz = d := by
  cases x with
  | val ow => exact ⟨_, _, ow, by simpa [DL.res] using h⟩
  | slot e =>
    obtain ⟨sl, m, h1, h2, h3⟩ := res_slot h
    obtain ⟨x, C, e', ow, _⟩ := o.get h1 h2
    rw [e] at e'
    cases e'
    exact ⟨m, C, ow, h3⟩
theorem WOw.view (x : WOw K F H σ v w B) (sb : Sub F H) (o : OwS K F H σ s A) {d : D} (h : DL.res s w = some d) : Fz K H v d := by
  obtain ⟨m, C, ow, rfl⟩ := x.res o h
  exact ow.view sb

/-- a slot's content in its place -/
theorem OwS.split : ∀ {σ : L2.St} {s : DSt} {A : List Addr} {i : Nat} {sl : Slot} {m : M}, OwS K F H σ s A → s[i]? = some sl → sl.m? = some m → ∃ x B C E, σ[i]? = some (some x) ∧ Ow K F H x m B ∧ A = C ++ B ++ E ∧
    ∀ (F' H' : Hp) (B0 A0 : List Addr) (m' : M) (B' : List Addr), Frm F H B0 F' H' A0 → (∀ a ∈ C ++ E, a ∉ B0) → Ow K F' H' x m' B' → OwS K F' H' σ (s.set i (sl.put m')) (C ++ B' ++ E)
  | _, _, _, i, _, _, .nil, h, _ => by simp at h
  | _, _, _, 0, _, _, .un r, h, hm => by cases h; cases hm
  | _, _, _, 0, _, _, .v (A1 := A1) (A2 := A2) w r, h, hm => by
    cases h; cases hm
    exact ⟨_, A1, [], A2, rfl, w, rfl, fun F' H' B0 A0 m' B' f ha o => .v o (r.keep f fun a q => ha a (by simpa using q))⟩
  | _, _, _, 0, _, _, .p (A1 := A1) (A2 := A2) w r, h, hm => by
    cases h; cases hm
    exact ⟨_, A1, [], A2, rfl, w, rfl, fun F' H' B0 A0 m' B' f ha o => .p o (r.keep f fun a q => ha a (by simpa using q))⟩
  | _, _, _, i + 1, _, _, .un r, h, hm => by
    obtain ⟨x, B, C, E, e, o, hA, k⟩ := OwS.split (i := i) r (by simpa using h) hm
    exact ⟨x, B, C, E, by simpa using e, o, hA, fun F' H' B0 A0 m' B' f ha o => .un (k F' H' B0 A0 m' B' f ha o)⟩
  | _, _, _, i + 1, _, _, .v (A1 := A1) w r, h, hm => by
    obtain ⟨x, B, C, E, e, o, hA, k⟩ := OwS.split (i := i) r (by simpa using h) hm
    refine ⟨x, B, A1 ++ C, E, by simpa using e, o, by simp [hA], fun F' H' B0 A0 m' B' f ha o => ?_⟩
    have q := OwS.v (w.keep f fun a q => ha a (by simp [q])) (k F' H' B0 A0 m' B' f (fun a q => ha a (by simp at q ⊢; rcases q with q | q <;> simp [q])) o)
    simpa using q
  | _, _, _, i + 1, _, _, .p (A1 := A1) w r, h, hm => by
    obtain ⟨x, B, C, E, e, o, hA, k⟩ := OwS.split (i := i) r (by simpa using h) hm
    refine ⟨x, B, A1 ++ C, E, by simpa using e, o, by simp [hA], fun F' H' B0 A0 m' B' f ha o => ?_⟩
    have q := OwS.p (w.keep f fun a q => ha a (by simp [q])) (k F' H' B0 A0 m' B' f (fun a q => ha a (by simp at q ⊢; rcases q with q | q <;> simp [q])) o)
    simpa using q
/-- a name is bound anew -/
theorem OwS.store : ∀ {σ : L2.St} {s : DSt} {A : List Addr} {i : Nat} {sl : Slot} {m : M} {B : List Addr}, OwS K F H σ s A → s[i]? = some sl → sl.pinned = false → Ow K F H v m B →
    ∃ A', OwS K F H (σ.set i (some v)) (s.set i (.v m)) A' ∧ (∀ a ∈ A', a ∈ B ∨ a ∈ A) ∧ ((B ++ A).Nodup → A'.Nodup)
  | _, _, _, i, _, _, _, .nil, h, _, _ => by simp at h
  | _, _, _, 0, _, _, B, .un (A := A2) r, h, hp, o => by
    refine ⟨B ++ A2, .v o r, fun a h => (List.mem_append.mp h), fun h => h⟩
  | _, _, _, 0, _, _, B, .v (A1 := A1) (A2 := A2) w r, h, hp, o => by
    refine ⟨B ++ A2, .v o r, fun a h => (List.mem_append.mp h).elim .inl fun q => .inr (List.mem_append_right _ q), fun h => ?_⟩
    exact nd_mk (nd_l h) (nd_r (nd_r h)) fun a ha hb => nd_x h a ha (List.mem_append_right _ hb)
  | _, _, _, 0, _, _, B, .p w r, h, hp, o => by cases h; cases hp
  | _, _, _, i + 1, _, _, B, .un r, h, hp, o => by
    obtain ⟨A', k, h1, h2⟩ := OwS.store (i := i) r (by simpa using h) hp o
    exact ⟨A', .un k, h1, h2⟩
  | _, _, _, i + 1, _, _, B, .v (A1 := A1) (A2 := A2) w r, h, hp, o => by
    obtain ⟨A', k, h1, h2⟩ := OwS.store (i := i) r (by simpa using h) hp o
    refine ⟨A1 ++ A', .v w k, fun a h => (List.mem_append.mp h).elim (fun q => .inr (List.mem_append_left _ q)) fun q => (h1 a q).imp id fun q => List.mem_append_right _ q, fun h => ?_⟩
    refine nd_mk (nd_l (nd_r h)) (h2 (nd_mk (nd_l h) (nd_r (nd_r h)) fun a ha hb => nd_x h a ha (List.mem_append_right _ hb))) fun a ha hb => ?_
    rcases h1 a hb with q | q
    · exact nd_x h a q (List.mem_append_left _ ha)
    · exact nd_x (nd_r h) a ha q
  | _, _, _, i + 1, _, _, B, .p (A1 := A1) (A2 := A2) w r, h, hp, o => by
    obtain ⟨A', k, h1, h2⟩ := OwS.store (i := i) r (by simpa using h) hp o
    refine ⟨A1 ++ A', .p w k, fun a h => (List.mem_append.mp h).elim (fun q => .inr (List.mem_append_left _ q)) fun q => (h1 a q).imp id fun q => List.mem_append_right _ q, fun h => ?_⟩
    refine nd_mk (nd_l (nd_r h)) (h2 (nd_mk (nd_l h) (nd_r (nd_r h)) fun a ha hb => nd_x h a ha (List.mem_append_right _ hb))) fun a ha hb => ?_
    rcases h1 a hb with q | q
    · exact nd_x h a q (List.mem_append_left _ ha)
    · exact nd_x (nd_r h) a ha q

/-! ### freezing -/
theorem freeze_one {a : Addr} {o : HO} (n : F a = none) (h : H a = some o) (sb : Sub F H) (dt : Dt o) : Frm F H [a] (upd F a o) H [] ∧ Sub (upd F a o) H ∧ ∀ b, b ≠ a → upd F a o b = F b := by
  have e1 : ∀ b, b ≠ a → upd F a o b = F b := fun b hb => upd_ne hb
  refine ⟨.ext (fun b ob hb => ?_) (fun b ob hb => hb) (fun b hb => (nomatch hb)) (fun b ob hb => ?_) (fun b ps hb => by
    by_cases q : b = a
    · subst q; rw [upd_same] at hb; cases hb; exact dt.elim
    · rw [e1 b q] at hb; exact hb), fun b ob hb => ?_, e1⟩
  · by_cases q : b = a
    · subst q; rw [n] at hb; cases hb
    · rw [e1 b q]; exact hb
  · by_cases q : b = a
    · exact .inr (.inl (by simp [q]))
    · rw [e1 b q] at hb; exact .inl hb
  · by_cases q : b = a
    · subst q; rw [upd_same] at hb; cases hb; exact .inl h
    · rw [e1 b q] at hb; exact sb b ob hb
/-- what is owned is frozen as it stands -/
theorem Ow.freeze {m : M} (w : Ow K F H v m B) (sb : Sub F H) : ∃ F', Frm F H B F' H [] ∧ Sub F' H ∧ Fz K F' v m.frz := by
  cases w with
  | fz h => exact ⟨F, Frm.refl, sb, h⟩
  | ml n h r =>
    obtain ⟨f, s2, _⟩ := freeze_one n h sb trivial
    exact ⟨_, f, s2, .lst upd_same (r.mono (Sub.of f.fsub))⟩
  | md n h r =>
    obtain ⟨f, s2, _⟩ := freeze_one n h sb trivial
    exact ⟨_, f, s2, .dic (.inl upd_same) (r.mono (Sub.of f.fsub))⟩
  | mt n h r =>
    obtain ⟨f, s2, _⟩ := freeze_one n h sb trivial
    exact ⟨_, f, s2, .dit (.inl upd_same) (r.mono (Sub.of f.fsub))⟩

/-- a value to be kept: a name's own thing is frozen -/
def tv (w : W) (s : DSt) (Q : M → DSt → Prop) : Prop :=
  match w with
  | .val m => Q m s
  | .slot i => match s[i]? with
    | some (.v m) => Q (.fz m.frz) (s.set i (.v (.fz m.frz)))
    | _ => False
theorem mem3 {C B E : List Addr} {a : Addr} : a ∈ C ++ B ++ E ↔ a ∈ C ∨ a ∈ B ∨ a ∈ E := by simp [or_assoc]
theorem tv_ok {Qm : M → DSt → Prop} (o : WOw K F H σ v w B) (sb : Sub F H) (ow : OwS K F H σ s A) (nd : (B ++ A).Nodup) (h : tv w s Qm) :
    ∃ m s' F' B' A', Qm m s' ∧ Frm F H (B ++ A) F' H (B' ++ A') ∧ Sub F' H ∧ Ow K F' H v m B' ∧ OwS K F' H σ s' A' ∧ (B' ++ A').Nodup ∧ (∀ a ∈ B', a ∈ B) ∧ (∀ a ∈ A', a ∈ A) := by
  cases o with
  | val ow1 => exact ⟨_, _, F, B, A, h, Frm.refl, sb, ow1, ow, nd, fun _ q => q, fun _ q => q⟩
  | slot e =>
    rename_i i
    unfold tv at h
    cases es : s[i]? with
    | none => simp [es] at h
    | some sl =>
      cases sl with
      | un => simp [es] at h
      | p x m => simp [es] at h
      | v m =>
        simp [es] at h
        obtain ⟨x, B1, C, E, e', o1, hA, k⟩ := ow.split es rfl
        rw [e] at e'
        cases e'
        obtain ⟨F', f, s2, z⟩ := o1.freeze sb
        have ndA : (C ++ B1 ++ E).Nodup := by rw [← hA]; simpa using nd
        have hx : ∀ a ∈ C ++ E, a ∉ B1 := fun a ha hb => by
          rcases List.mem_append.mp ha with q | q
          · exact nd_x (nd_l ndA) a q hb
          · exact nd_x ndA a (List.mem_append_right _ hb) q
        have k2 := k F' H B1 [] (.fz m.frz) [] f hx (.fz z)
        have hs : ∀ a ∈ C ++ [] ++ E, a ∈ A := fun a ha => by
          rw [hA, mem3]
          rcases mem3.mp ha with q | q | q
          · exact .inl q
          · cases q
          · exact .inr (.inr q)
        refine ⟨_, _, F', [], C ++ [] ++ E, h, Frm.exF f.fsub (fun a o q => q) (fun a ha => .inl (hs a ha)) (fun a o q => ?_) f.ft, s2, .fz z, k2, ?_, fun _ q => q, hs⟩
        · rcases f.fnew a o q with q | q | q
          · exact .inl q
          · refine .inr (.inl ?_)
            show a ∈ A
            rw [hA, mem3]; exact .inr (.inl q)
          · exact .inr (.inr q)
        · show (C ++ [] ++ E).Nodup
          rw [List.append_nil]
          exact nd_mk (nd_l (nd_l ndA)) (nd_r ndA) fun a ha hb => nd_x ndA a (List.mem_append_left _ ha) hb
end
end DL

namespace DL
open PySem PySem.Spec L2

structure DE (Z : ZX) (X : Cx) (e : Expr) (t : TE) (m : TD) : Prop where
  pe : PE X e t
  lf : Lift Z t m
structure DA (Z : ZX) (X : Cx) (es : List Expr) (t : TA) (m : TDs) : Prop where
  pa : PA X es t
  lf : Lifts Z t m
abbrev TTd := DSt → (Bool → DSt → Prop) → Prop
/-- behind a test: the state again -/
structure OutT (K : PySem.W.Frag) (F H : Hp) (A : List Addr) (σ : L2.St) (s' : DSt) (F' H' : Hp) (A' : List Addr) : Prop where
  fr : Frm F H A F' H' A'
  sub : Sub F' H'
  own : OwS K F' H' σ s' A'
  nd : A'.Nodup
def LiftT (Z : ZX) (t : TT) (m : TTd) : Prop := ∀ (σ : L2.St) (H F : Hp) (A : List Addr) (s : DSt) (Q : Bool → Hp → Prop) (Qd : Bool → DSt → Prop), Rel Z F H σ s A → m s Qd →
  (∀ b s' F' H' A', Qd b s' → OutT Z.K F H A σ s' F' H' A' → Q b H') → t σ H Q
structure DT (Z : ZX) (X : Cx) (e : Expr) (t : TT) (m : TTd) : Prop where
  pt : PT X e t
  lf : LiftT Z t m
structure DW (Z : ZX) (X : Cx) (e : Expr) (t : TT) (m : TTd) : Prop where
  pw : PW X e t
  lf : LiftT Z t m

section
variable {Z : ZX} {X : Cx} {K : PySem.W.Frag} {F H F1 H1 F2 H2 F3 H3 : Hp} {A A1 A2 Av B : List Addr} {σ : L2.St} {s s1 s2 : DSt} {v : V} {w : W}

theorem OutT.rel (r : Rel Z F H σ s A) (o : OutT Z.K F H A σ s1 F1 H1 A1) : Rel Z F1 H1 σ s1 A1 := ⟨o.sub, o.own, o.nd, r.ex.step o.fr⟩
theorem Out.t {K : PySem.W.Frag} {v : V} (o : Out K F H A σ w s1 v F1 H1 Av A1) : OutT K F H A σ s1 F1 H1 A1 :=
  ⟨o.fr.weak fun a h => List.mem_append_right _ h, o.sub, o.own, nd_r o.nd⟩
theorem OutT.trans {K : PySem.W.Frag} (o : OutT K F H A σ s1 F1 H1 A1) (p : OutT K F1 H1 A1 σ s2 F2 H2 A2) : OutT K F H A σ s2 F2 H2 A2 :=
  ⟨o.fr.trans0 p.fr, p.sub, p.own, p.nd⟩
theorem OutT.out {K : PySem.W.Frag} (o : OutT K F H A σ s1 F1 H1 A1) (p : Out K F1 H1 A1 σ w s2 v F2 H2 Av A2) : Out K F H A σ w s2 v F2 H2 Av A2 :=
  ⟨o.fr.trans0 p.fr, p.sub, p.wow, p.own, p.nd⟩
theorem OutT.outs {K : PySem.W.Frag} {ws : List W} {vs : List V} (o : OutT K F H A σ s1 F1 H1 A1) (p : Outs K F1 H1 A1 σ ws s2 vs F2 H2 Av A2) : Outs K F H A σ ws s2 vs F2 H2 Av A2 :=
  ⟨o.fr.trans0 p.fr, p.sub, p.wow, p.own, p.nd⟩

/-- two values, one behind the other -/
structure Out2 (K : PySem.W.Frag) (F H : Hp) (A : List Addr) (σ : L2.St) (wa wb : W) (s' : DSt) (va vb : V) (F' H' : Hp) (Aa Ab A' : List Addr) : Prop where
  fr : Frm F H A F' H' ((Aa ++ Ab) ++ A')
  sub : Sub F' H'
  wa : WOw K F' H' σ va wa Aa
  wb : WOw K F' H' σ vb wb Ab
  own : OwS K F' H' σ s' A'
  nd : ((Aa ++ Ab) ++ A').Nodup
theorem Out.seq {K : PySem.W.Frag} {wa wb : W} {va vb : V} {Aa Ab : List Addr} (o : Out K F H A σ wa s1 va F1 H1 Aa A1) (p : Out K F1 H1 A1 σ wb s2 vb F2 H2 Ab A2) : Out2 K F H A σ wa wb s2 va vb F2 H2 Aa Ab A2 := by
  have hx := nd_x o.nd
  have h1 := apart (fun a h => (o.wow.out a h).2) hx p.fr
  refine ⟨by simpa using Frm.trans (B := Aa) o.fr p.fr, p.sub, o.wow.keep p.fr hx, p.wow, p.own, ?_⟩
  rw [List.append_assoc]
  exact nd_mk (nd_l o.nd) p.nd h1
theorem Out.cons {K : PySem.W.Frag} {wa : W} {ws : List W} {va : V} {vs : List V} {Aa Ab : List Addr} (o : Out K F H A σ wa s1 va F1 H1 Aa A1) (p : Outs K F1 H1 A1 σ ws s2 vs F2 H2 Ab A2) : Outs K F H A σ (wa :: ws) s2 (va :: vs) F2 H2 (Aa ++ Ab) A2 := by
  have hx := nd_x o.nd
  have h1 := apart (fun a h => (o.wow.out a h).2) hx p.fr
  refine ⟨by simpa using Frm.trans (B := Aa) o.fr p.fr, p.sub, .cons (o.wow.keep p.fr hx) p.wow, p.own, ?_⟩
  rw [List.append_assoc]
  exact nd_mk (nd_l o.nd) p.nd h1
/-- an operation at the end makes z -/
theorem Out.fin {K : PySem.W.Frag} {z : M} (f : Frm F H A F2 H2 (B ++ A2)) (ow : OwS K F2 H2 σ s A2) (nd : (B ++ A2).Nodup) (g : Frm F2 H2 [] F3 H3 Av) (sb : Sub F3 H3) (o : Ow K F3 H3 v z Av) (nv : Av.Nodup) : Out K F H A σ (.val z) s v F3 H3 Av A2 := by
  have f2 : Frm F H A F2 H2 (A2 ++ []) := f.weak fun a h => List.mem_append_right _ (by simpa using h)
  have f3 := Frm.trans (B := A2) f2 g
  refine ⟨f3.weak fun a h => (List.mem_append.mp h).elim (List.mem_append_right _) (List.mem_append_left _), sb, .val o, ow.keep g (fun a _ h => nomatch h), ?_⟩
  refine nd_mk nv (nd_r nd) fun a ha hb => ?_
  rcases g.new a ha with q | q
  · cases q
  · obtain ⟨o', e, d⟩ := (ow.out a hb).2
    exact fr_no e d.nt q
theorem Out.fin0 {K : PySem.W.Frag} {d : D} (f : Frm F H A F2 H2 (B ++ A2)) (sb : Sub F2 H2) (ow : OwS K F2 H2 σ s A2) (nd : (B ++ A2).Nodup) (z : Fz K F2 v d) : Out K F H A σ (.val (.fz d)) s v F2 H2 [] A2 :=
  ⟨f.weak fun a h => List.mem_append_right _ (by simpa using h), sb, .val (.fz z), ow, nd_r nd⟩

/-! ### names and constants -/
def mVar (i : Nat) : TD := fun s Q => match s[i]? with
  | some (.v _) => Q (.slot i) s
  | some (.p _ _) => Q (.slot i) s
  | _ => False
theorem Lift.var {i : Nat} : Lift Z (tVar i) (mVar i) := by
  intro σ H F A s Q Qd R h k
  unfold mVar at h
  cases e : s[i]? with
  | none => simp [e] at h
  | some sl =>
    cases sl with
    | un => simp [e] at h
    | v m =>
      simp [e] at h
      obtain ⟨x, C, e', o, _⟩ := R.own.get e rfl
      exact ⟨x, e', k _ _ _ _ _ [] _ h ⟨Frm.refl, R.sub, .slot e', R.own, R.nd⟩⟩
    | p x' m =>
      simp [e] at h
      obtain ⟨x, C, e', o, _⟩ := R.own.get e rfl
      exact ⟨x, e', k _ _ _ _ _ [] _ h ⟨Frm.refl, R.sub, .slot e', R.own, R.nd⟩⟩
theorem dv (i : Nat) {x : Str} {pos : Pos} (hN : X.N[i]? = some x := by rfl) (hv : Vis X.env.scope x := by first | exact Or.inl rfl | exact Or.inr (Or.inl rfl) | exact Or.inr (Or.inr rfl)) (hd : (x == ("__debug__" : Str)) = false := by decide) (hcd : (x == ("__classdict__" : Str)) = false := by decide) : DE Z X (.Name x pos) (tVar i) (mVar i) :=
  ⟨pv i hN hv hd hcd, Lift.var⟩
def mC (d : D) : TD := fun s Q => Q (.val (.fz d)) s
theorem Lift.const {v : V} {d : D} (z : ∀ F : Hp, Fz Z.K F v d) : Lift Z (tC v) (mC d) :=
  fun σ H F A s Q Qd R h k => k _ _ _ _ _ [] _ h ⟨Frm.refl, R.sub, .val (.fz (z F)), R.own, R.nd⟩
theorem de_int {i j pos} : DE Z X (.Constant (.int i) j pos) (tC (.int i)) (mC (.int i)) := ⟨pe_int, .const fun _ => .int i⟩
theorem de_bl {b j pos} : DE Z X (.Constant (.bool b) j pos) (tC (.bl b)) (mC (.bl b)) := ⟨pe_bl, .const fun _ => .bl b⟩
theorem de_non {j pos} : DE Z X (.Constant .none j pos) (tC .non) (mC .non) := ⟨pe_non, .const fun _ => .non⟩
theorem de_str {x j pos} : DE Z X (.Constant (.str x) j pos) (tC (.str x)) (mC (.str x)) := ⟨pe_str, .const fun _ => .str x⟩
theorem de_glob {x : Str} {v : V} {u : Value} {d : D} {pos : Pos} (hg : Gl X x) (hm : X.mg x = some u) (r : RelV v u) (z : ∀ F : Hp, Fz Z.K F v d) (hd : (x == ("__debug__" : Str)) = false := by decide) : DE Z X (.Name x pos) (tC v) (mC d) :=
  ⟨pe_glob hg hm r hd, .const z⟩

/-! ### operations by values -/
/-- an operation that reads its two operands and makes z -/
def OpD (K : PySem.W.Frag) (r : R2) (f : D → D → M → Prop) : Prop := ∀ (F H : Hp) (x y : V) (m1 m2 : M) (B1 B2 : List Addr) (z : M) (Q : VK), Sub F H → Ow K F H x m1 B1 → Ow K F H y m2 B2 → f m1.frz m2.frz z →
  (∀ v F' H' Av, Frm F H [] F' H' Av → Sub F' H' → Ow K F' H' v z Av → Av.Nodup → Q v H') → r x y H Q
def mOp (f : D → D → M → Prop) (ma mb : TD) : TD := fun s Q => ma s fun wa s1 => mb s1 fun wb s2 => ∃ x y z, res s2 wa = some x ∧ res s2 wb = some y ∧ f x y z ∧ Q (.val z) s2
theorem Lift.op {r : R2} {f : D → D → M → Prop} {ta tb : TE} {ma mb : TD} (ho : OpD Z.K r f) (la : Lift Z ta ma) (lb : Lift Z tb mb) : Lift Z (tOp r ta tb) (mOp f ma mb) := by
  intro σ H F A s Q Qd R h k
  refine la σ H F A s _ _ R h fun wa s1 va F1 H1 Aa A1 h1 o1 => ?_
  refine lb σ H1 F1 A1 s1 _ _ (o1.rel R) h1 fun wb s2 vb F2 H2 Ab A2 h2 o2 => ?_
  obtain ⟨x, y, z, ex, ey, hz, q⟩ := h2
  have p := o1.seq o2
  obtain ⟨m1, C1, w1, rfl⟩ := p.wa.res p.own ex
  obtain ⟨m2, C2, w2, rfl⟩ := p.wb.res p.own ey
  exact ho F2 H2 va vb m1 m2 C1 C2 z Q p.sub w1 w2 hz fun v F' H' Av g sb ow nv => k _ _ _ _ _ _ _ q (Out.fin p.fr p.own p.nd g sb ow nv)
/-- .. whose result is flat -/
theorem OpD.flat {r : R2} {f : D → D → M → Prop} (h : ∀ (F H : Hp) (x y : V) (d e : D) (z : M) (Q : VK), Sub F H → Fz K H x d → Fz K H y e → f d e z → ∃ d', z = .fz d' ∧ ∃ u, (∀ F, Fz K F u d') ∧ (Q u H → r x y H Q)) : OpD K r f := by
  intro F H x y m1 m2 B1 B2 z Q sb w1 w2 hz k
  obtain ⟨d', rfl, u, zu, q⟩ := h F H x y _ _ z Q sb (w1.view sb) (w2.view sb) hz
  exact q (k u F H [] Frm.refl sb (.fz (zu F)) List.nodup_nil)
theorem OpD.or {r r' : R2} {f f' : D → D → M → Prop} (h : OpD K r f) (h' : OpD K r' f') : OpD K (fun x y H Q => r x y H Q ∨ r' x y H Q) (fun x y z => f x y z ∨ f' x y z) := by
  intro F H x y m1 m2 B1 B2 z Q sb w1 w2 hz k
  rcases hz with hz | hz
  · exact .inl (h F H x y m1 m2 B1 B2 z Q sb w1 w2 hz k)
  · exact .inr (h' F H x y m1 m2 B1 B2 z Q sb w1 w2 hz k)
theorem de_op {op : Operator} {r : R2} {f : D → D → M → Prop} {a b : Expr} {ta tb : TE} {ma mb : TD} {pos : Pos} (hx : OpR X (binaryOp op) r) (ho : OpD Z.K r f) (ha : DE Z X a ta ma) (hb : DE Z X b tb mb) : DE Z X (.BinOp a op b pos) (tOp r ta tb) (mOp f ma mb) :=
  ⟨pe_op hx ha.pe hb.pe, .op ho ha.lf hb.lf⟩
theorem de_cmp {op : CmpOp} {r : R2} {f : D → D → M → Prop} {a b : Expr} {ta tb : TE} {ma mb : TD} {pos : Pos} (hx : OpR X (compareOp op) r) (ho : OpD Z.K r f) (ha : DE Z X a ta ma) (hb : DE Z X b tb mb) (hm : behindInMarks op b = false) : DE Z X (.Compare a [op] [b] pos) (tOp r ta tb) (mOp f ma mb) :=
  ⟨pe_cmpR hx ha.pe hb.pe hm, .op ho ha.lf hb.lf⟩
/-- a value that must be True or False, as a test -/
def mTest (m : TD) : TTd := fun s Q => m s fun w s' => ∃ b, res s' w = some (.bl b) ∧ Q b s'
theorem Lift.test {t : TE} {m : TD} (l : Lift Z t m) : LiftT Z (tTest t) (mTest m) := by
  intro σ H F A s Q Qd R h k
  refine l σ H F A s _ _ R h fun w s1 v F1 H1 Av A1 h1 o1 => ?_
  obtain ⟨b, e, q⟩ := h1
  have z := o1.wow.view o1.sub o1.own e
  cases z
  exact ⟨b, rfl, k _ _ _ _ _ q o1.t⟩
theorem dt_cmp {op : CmpOp} {r : R2} {f : D → D → M → Prop} {a b : Expr} {ta tb : TE} {ma mb : TD} {pos : Pos} (hx : OpR X (compareOp op) r) (ho : OpD Z.K r f) (ha : DE Z X a ta ma) (hb : DE Z X b tb mb) (hm : behindInMarks op b = false) : DT Z X (.Compare a [op] [b] pos) (tTest (tOp r ta tb)) (mTest (mOp f ma mb)) :=
  ⟨pt_cmpR hx ha.pe hb.pe hm, (Lift.op ho ha.lf hb.lf).test⟩
/-- a op b op' c -/
def mChain (f f' : D → D → M → Prop) (ma mb mc : TD) : TD := fun s Q => ma s fun wa s1 => mb s1 fun wb s2 => ∃ x y z, res s2 wa = some x ∧ res s2 wb = some y ∧ f x y (.fz (.bl z)) ∧
  (if z = true then mc s2 fun wc s3 => ∃ y' u r, res s3 wb = some y' ∧ res s3 wc = some u ∧ f' y' u r ∧ Q (.val r) s3 else Q (.val (.fz (.bl false))) s2)
theorem Lift.chain {r r' : R2} {f f' : D → D → M → Prop} {ta tb tc : TE} {ma mb mc : TD} (ho : OpD Z.K r f) (ho' : OpD Z.K r' f') (la : Lift Z ta ma) (lb : Lift Z tb mb) (lc : Lift Z tc mc) : Lift Z (tChain r r' ta tb tc) (mChain f f' ma mb mc) := by
  intro σ H F A s Q Qd R h k
  refine la σ H F A s _ _ R h fun wa s1 va F1 H1 Aa A1 h1 o1 => ?_
  refine lb σ H1 F1 A1 s1 _ _ (o1.rel R) h1 fun wb s2 vb F2 H2 Ab A2 h2 o2 => ?_
  obtain ⟨x, y, z, ex, ey, hz, q⟩ := h2
  have p := o1.seq o2
  obtain ⟨m1, C1, w1, rfl⟩ := p.wa.res p.own ex
  obtain ⟨m2, C2, w2, rfl⟩ := p.wb.res p.own ey
  have f12 := Frm.trans0 (o1.fr.weak fun a h => List.mem_append_right _ h) o2.fr
  refine ho F2 H2 va vb m1 m2 C1 C2 _ _ p.sub w1 w2 hz fun v F' H' Av g sb ow nv => ?_
  cases ow with
  | fz zz =>
    cases zz
    refine ⟨z, rfl, ?_⟩
    have o3 := Out.fin f12 p.own (nd_r (A := Aa) (by simpa using p.nd)) g sb (.fz (.bl z)) List.nodup_nil
    have wb3 : WOw Z.K F' H' σ vb wb Ab := p.wb.keep g fun a _ h => nomatch h
    cases z with
    | false =>
      rw [if_neg Bool.false_ne_true] at q ⊢
      exact k _ _ _ _ _ _ _ q o3
    | true =>
      rw [if_pos rfl] at q ⊢
      have ndb : (Ab ++ A2).Nodup := nd_r (A := Aa) (by simpa using p.nd)
      have f3 : Frm F H A F' H' (Ab ++ A2) := (Frm.trans (B := Ab ++ A2) (A1 := []) (by simpa using f12) g).weak fun a h => List.mem_append_left _ h
      have o4 : Out Z.K F H A σ wb s2 vb F' H' Ab A2 := ⟨f3, sb, wb3, o3.own, ndb⟩
      refine lc σ H' F' A2 s2 _ _ (o4.rel R) q fun wc s3 vc F4 H4 Ac A4 h4 o5 => ?_
      obtain ⟨y', u, r1, ey', eu, hr, q'⟩ := h4
      have p2 := o4.seq o5
      obtain ⟨n1, D1, v1, rfl⟩ := p2.wa.res p2.own ey'
      obtain ⟨n2, D2, v2, rfl⟩ := p2.wb.res p2.own eu
      exact ho' F4 H4 vb vc n1 n2 D1 D2 r1 Q p2.sub v1 v2 hr fun v F' H' Av g sb ow nv => k _ _ _ _ _ _ _ q' (Out.fin p2.fr p2.own p2.nd g sb ow nv)
theorem de_chain {op op' : CmpOp} {r r' : R2} {f f' : D → D → M → Prop} {a b c : Expr} {ta tb tc : TE} {ma mb mc : TD} {pos : Pos} (hx : OpR X (compareOp op) r) (ho : OpD Z.K r f) (hx' : OpR X (compareOp op') r') (ho' : OpD Z.K r' f') (ha : DE Z X a ta ma) (hb : DE Z X b tb mb) (hc : DE Z X c tc mc) (hm : lastMarks [op, op'] [b, c] = false := by with_unfolding_all rfl) : DE Z X (.Compare a [op, op'] [b, c] pos) (tChain r r' ta tb tc) (mChain f f' ma mb mc) :=
  ⟨pe_chain hx hx' ha.pe hb.pe hc.pe hm, .chain ho ho' ha.lf hb.lf hc.lf⟩
theorem dt_chain {op op' : CmpOp} {r r' : R2} {f f' : D → D → M → Prop} {a b c : Expr} {ta tb tc : TE} {ma mb mc : TD} {pos : Pos} (hx : OpR X (compareOp op) r) (ho : OpD Z.K r f) (hx' : OpR X (compareOp op') r') (ho' : OpD Z.K r' f') (ha : DE Z X a ta ma) (hb : DE Z X b tb mb) (hc : DE Z X c tc mc) (hm : lastMarks [op, op'] [b, c] = false := by with_unfolding_all rfl) : DT Z X (.Compare a [op, op'] [b, c] pos) (tTest (tChain r r' ta tb tc)) (mTest (mChain f f' ma mb mc)) :=
  ⟨pt_chain hx hx' ha.pe hb.pe hc.pe hm, (Lift.chain ho ho' ha.lf hb.lf hc.lf).test⟩

/-! ### truth, and, or, not, if -/
def D.truth : D → Bool → Prop
  | .non, k => k = false
  | .bl b, k => k = b
  | .int i, k => k = (i != 0)
  | .str x, k => x.length ≤ sizeLine ∧ k = ((x.length : Int) != 0)
  | .lst ds, k => k = !ds.isEmpty
  | .tup ds, k => k = !ds.isEmpty
  | .wtu ds, k => k = !ds.isEmpty
  | .dic ds, k => k = !ds.isEmpty
  | _, _ => False
def TruD (K : PySem.W.Frag) (x : V) (H : Hp) (k : Bool) : Prop := TruV K x H k ∨ ∃ p kvs, x = .ref p ∧ Rd H p (.dK kvs) ∧ k = !kvs.isEmpty
theorem tru_okD : TruR X (fun x H Q => ∃ k, TruD X.K x H k ∧ Q k H) := by
  intro pins s σ H x v Q I rx h
  obtain ⟨k, e, q⟩ := h
  rcases e with e | ⟨p, kvs, rfl, r, e⟩
  · exact tru_ok pins s σ H x v Q I rx ⟨k, e, q⟩
  · cases rx
    subst e
    exact d_truth I r fun s' I' => ⟨H, I', q⟩
theorem pt_truthD {a : Expr} {ta : TE} (ha : PE X a ta) (he : ∀ whole, isTrue a X.env whole = (do let v ← whole; standAt a.pos; holding [v] (truthy v))) : PT X a (fun σ H Q => ta σ H fun x H' => ∃ k, TruD X.K x H' k ∧ Q k H') := by
  refine ⟨fun pins s σ H Q I h => ?_⟩
  exact PyProof.Rows.isTrue_plain (thn (ha.run pins s σ H _ I h) fun v s1 ⟨x, H1, I1, r1, q1⟩ => tru_okD pins s1 σ H1 x v Q I1 r1 q1) (he _)
def mTruth (m : TD) : TTd := fun s Q => m s fun w s' => ∃ x b, res s' w = some x ∧ x.truth b ∧ Q b s'
theorem emp_of {α β : Type} {xs : List α} {ys : List β} (h : xs.length = ys.length) : xs.isEmpty = ys.isEmpty := by
  cases xs <;> cases ys <;> simp_all
theorem Fz.truth {K : PySem.W.Frag} {H : Hp} {v : V} {d : D} {b : Bool} (z : Fz K H v d) (tr : d.truth b) : TruD K v H b := by
  cases z with
  | non => exact .inl tr
  | bl b => exact .inl tr
  | int i => exact .inl tr
  | str x => exact .inl tr
  | tup h r => exact .inl (.inr (.inl ⟨_, SqT.of h, by rw [emp_of r.length]; exact tr⟩))
  | wtu h r => exact .inl (.inr (.inl ⟨_, .inr h, by rw [emp_of r.length]; exact tr⟩))
  | lst h r => exact .inl (.inl ⟨_, SqL.of h, by rw [emp_of r.length]; exact tr⟩)
  | scr h => exact tr.elim
  | dic h r => exact .inr ⟨_, _, rfl, h, by rw [emp_of r.length]; exact tr⟩
  | dit h r => exact tr.elim
  | obj h r => exact tr.elim
  | ref a => exact tr.elim
  | ty n => exact tr.elim
theorem Lift.truth {t : TE} {m : TD} (l : Lift Z t m) : LiftT Z (fun σ H Q => t σ H fun x H' => ∃ k, TruD Z.K x H' k ∧ Q k H') (mTruth m) := by
  intro σ H F A s Q Qd R h k
  refine l σ H F A s _ _ R h fun w s1 v F1 H1 Av A1 h1 o1 => ?_
  obtain ⟨x, b, e, tr, q⟩ := h1
  exact ⟨b, (o1.wow.view o1.sub o1.own e).truth tr, k _ _ _ _ _ q o1.t⟩
theorem dt_truth {a : Expr} {t : TE} {m : TD} (ha : DE Z X a t m) (hK : X.K = Z.K := by rfl) (he : ∀ whole, isTrue a X.env whole = (do let v ← whole; standAt a.pos; holding [v] (truthy v)) := by intro _; rfl) : DT Z X a (fun σ H Q => t σ H fun x H' => ∃ k, TruD Z.K x H' k ∧ Q k H') (mTruth m) :=
  ⟨by rw [← hK]; exact pt_truthD ha.pe he, ha.lf.truth⟩
theorem DW.pt {e : Expr} {t : TT} {m : TTd} (h : DW Z X e t m) : DT Z X e t m := ⟨h.pw.pt, h.lf⟩
def mAnd (m n : TTd) : TTd := fun s Q => m s fun c s1 => if c = true then n s1 Q else Q false s1
def mOr (m n : TTd) : TTd := fun s Q => m s fun c s1 => if c = true then Q true s1 else n s1 Q
def mNot (m : TTd) : TTd := fun s Q => m s fun c s1 => Q (!c) s1
theorem LiftT.and {t u : TT} {m n : TTd} (l : LiftT Z t m) (l' : LiftT Z u n) : LiftT Z (tAnd t u) (mAnd m n) := by
  intro σ H F A s Q Qd R h k
  refine l σ H F A s _ _ R h fun c s1 F1 H1 A1 h1 o1 => ?_
  cases c with
  | false =>
    rw [if_neg Bool.false_ne_true] at h1 ⊢
    exact k _ _ _ _ _ h1 o1
  | true =>
    rw [if_pos rfl] at h1 ⊢
    exact l' σ H1 F1 A1 s1 _ _ (o1.rel R) h1 fun c s2 F2 H2 A2 h2 o2 => k _ _ _ _ _ h2 (o1.trans o2)
theorem LiftT.or {t u : TT} {m n : TTd} (l : LiftT Z t m) (l' : LiftT Z u n) : LiftT Z (tOr t u) (mOr m n) := by
  intro σ H F A s Q Qd R h k
  refine l σ H F A s _ _ R h fun c s1 F1 H1 A1 h1 o1 => ?_
  cases c with
  | true =>
    rw [if_pos rfl] at h1 ⊢
    exact k _ _ _ _ _ h1 o1
  | false =>
    rw [if_neg Bool.false_ne_true] at h1 ⊢
    exact l' σ H1 F1 A1 s1 _ _ (o1.rel R) h1 fun c s2 F2 H2 A2 h2 o2 => k _ _ _ _ _ h2 (o1.trans o2)
theorem LiftT.not {t : TT} {m : TTd} (l : LiftT Z t m) : LiftT Z (tNot t) (mNot m) := by
  intro σ H F A s Q Qd R h k
  exact l σ H F A s _ _ R h fun c s1 F1 H1 A1 h1 o1 => k _ _ _ _ _ h1 o1
theorem dw_and1 {a : Expr} {t : TT} {m : TTd} {pos : Pos} (h : DT Z X a t m) : DW Z X (.BoolOp .And [a] pos) t m := ⟨pw_and1 h.pt, h.lf⟩
theorem dw_or1 {a : Expr} {t : TT} {m : TTd} {pos : Pos} (h : DT Z X a t m) : DW Z X (.BoolOp .Or [a] pos) t m := ⟨pw_or1 h.pt, h.lf⟩
theorem dw_and {a b : Expr} {rest : List Expr} {t u : TT} {m n : TTd} {pos : Pos} (h : DT Z X a t m) (h' : DW Z X (.BoolOp .And (b :: rest) pos) u n) : DW Z X (.BoolOp .And (a :: b :: rest) pos) (tAnd t u) (mAnd m n) := ⟨pw_and h.pt h'.pw, h.lf.and h'.lf⟩
theorem dw_or {a b : Expr} {rest : List Expr} {t u : TT} {m n : TTd} {pos : Pos} (h : DT Z X a t m) (h' : DW Z X (.BoolOp .Or (b :: rest) pos) u n) : DW Z X (.BoolOp .Or (a :: b :: rest) pos) (tOr t u) (mOr m n) := ⟨pw_or h.pt h'.pw, h.lf.or h'.lf⟩
theorem dt_not {a : Expr} {t : TT} {m : TTd} {pos : Pos} (h : DT Z X a t m) : DT Z X (.UnaryOp .Not a pos) (tNot t) (mNot m) := ⟨pt_not h.pt, h.lf.not⟩
/-- as values: all but the last are True or False -/
def mAndV (m n : TD) : TD := fun s Q => m s fun w s1 => ∃ c, res s1 w = some (.bl c) ∧ if c = true then n s1 Q else Q (.val (.fz (.bl false))) s1
def mOrV (m n : TD) : TD := fun s Q => m s fun w s1 => ∃ c, res s1 w = some (.bl c) ∧ if c = true then Q (.val (.fz (.bl true))) s1 else n s1 Q
def mNotV (m : TD) : TD := fun s Q => m s fun w s1 => ∃ c, res s1 w = some (.bl c) ∧ Q (.val (.fz (.bl (!c)))) s1
theorem Out.flat {K : PySem.W.Frag} {u : V} {d : D} (o : Out K F H A σ w s1 v F1 H1 Av A1) (z : Fz K F1 u d) : Out K F H A σ (.val (.fz d)) s1 u F1 H1 [] A1 :=
  Out.fin0 o.fr o.sub o.own o.nd z
theorem Lift.andV {t u : TE} {m n : TD} (l : Lift Z t m) (l' : Lift Z u n) : Lift Z (tAndV t u) (mAndV m n) := by
  intro σ H F A s Q Qd R h k
  refine l σ H F A s _ _ R h fun w s1 v F1 H1 Av A1 h1 o1 => ?_
  obtain ⟨c, e, q⟩ := h1
  have z := o1.wow.view o1.sub o1.own e
  cases z
  refine ⟨c, rfl, ?_⟩
  cases c with
  | false =>
    rw [if_neg Bool.false_ne_true] at q ⊢
    exact k _ _ _ _ _ _ _ q (o1.flat (.bl false))
  | true =>
    rw [if_pos rfl] at q ⊢
    exact l' σ H1 F1 A1 s1 _ _ (o1.rel R) q fun w s2 v F2 H2 Av A2 h2 o2 => k _ _ _ _ _ _ _ h2 (o1.t.out o2)
theorem Lift.orV {t u : TE} {m n : TD} (l : Lift Z t m) (l' : Lift Z u n) : Lift Z (tOrV t u) (mOrV m n) := by
  intro σ H F A s Q Qd R h k
  refine l σ H F A s _ _ R h fun w s1 v F1 H1 Av A1 h1 o1 => ?_
  obtain ⟨c, e, q⟩ := h1
  have z := o1.wow.view o1.sub o1.own e
  cases z
  refine ⟨c, rfl, ?_⟩
  cases c with
  | true =>
    rw [if_pos rfl] at q ⊢
    exact k _ _ _ _ _ _ _ q (o1.flat (.bl true))
  | false =>
    rw [if_neg Bool.false_ne_true] at q ⊢
    exact l' σ H1 F1 A1 s1 _ _ (o1.rel R) q fun w s2 v F2 H2 Av A2 h2 o2 => k _ _ _ _ _ _ _ h2 (o1.t.out o2)
theorem Lift.notV {t : TE} {m : TD} (l : Lift Z t m) : Lift Z (tNotV t) (mNotV m) := by
  intro σ H F A s Q Qd R h k
  refine l σ H F A s _ _ R h fun w s1 v F1 H1 Av A1 h1 o1 => ?_
  obtain ⟨c, e, q⟩ := h1
  have z := o1.wow.view o1.sub o1.own e
  cases z
  exact ⟨c, rfl, k _ _ _ _ _ _ _ q (o1.flat (.bl (!c)))⟩
theorem de_one {op : BoolOp} {a : Expr} {t : TE} {m : TD} {pos : Pos} (h : DE Z X a t m) : DE Z X (.BoolOp op [a] pos) t m := ⟨pe_one h.pe, h.lf⟩
theorem de_and {a b : Expr} {rest : List Expr} {t u : TE} {m n : TD} {pos : Pos} (h : DE Z X a t m) (h' : DE Z X (.BoolOp .And (b :: rest) pos) u n) : DE Z X (.BoolOp .And (a :: b :: rest) pos) (tAndV t u) (mAndV m n) := ⟨pe_and h.pe h'.pe, h.lf.andV h'.lf⟩
theorem de_or {a b : Expr} {rest : List Expr} {t u : TE} {m n : TD} {pos : Pos} (h : DE Z X a t m) (h' : DE Z X (.BoolOp .Or (b :: rest) pos) u n) : DE Z X (.BoolOp .Or (a :: b :: rest) pos) (tOrV t u) (mOrV m n) := ⟨pe_or h.pe h'.pe, h.lf.orV h'.lf⟩
theorem de_not {a : Expr} {t : TE} {m : TD} {pos : Pos} (h : DE Z X a t m) : DE Z X (.UnaryOp .Not a pos) (tNotV t) (mNotV m) := ⟨pe_not h.pe, h.lf.notV⟩
def mIf (c : TTd) (m n : TD) : TD := fun s Q => c s fun b s1 => if b = true then m s1 Q else n s1 Q
theorem Lift.ife {c : TT} {t u : TE} {mc : TTd} {m n : TD} (lc : LiftT Z c mc) (l : Lift Z t m) (l' : Lift Z u n) : Lift Z (tIf c t u) (mIf mc m n) := by
  intro σ H F A s Q Qd R h k
  refine lc σ H F A s _ _ R h fun b s1 F1 H1 A1 h1 o1 => ?_
  cases b with
  | true =>
    rw [if_pos rfl] at h1 ⊢
    exact l σ H1 F1 A1 s1 _ _ (o1.rel R) h1 fun w s2 v F2 H2 Av A2 h2 o2 => k _ _ _ _ _ _ _ h2 (o1.out o2)
  | false =>
    rw [if_neg Bool.false_ne_true] at h1 ⊢
    exact l' σ H1 F1 A1 s1 _ _ (o1.rel R) h1 fun w s2 v F2 H2 Av A2 h2 o2 => k _ _ _ _ _ _ _ h2 (o1.out o2)
theorem de_ife {c a b : Expr} {tc : TT} {t u : TE} {mc : TTd} {m n : TD} {pos : Pos} (hc : DT Z X c tc mc) (ha : DE Z X a t m) (hb : DE Z X b u n) : DE Z X (.IfExp c a b pos) (tIf tc t u) (mIf mc m n) := ⟨pe_ifExp hc.pt ha.pe hb.pe, .ife hc.lf ha.lf hb.lf⟩
end
end DL

namespace DL
open PySem PySem.Spec L2

section
variable {K : PySem.W.Frag} {X : Cx}
theorem OpR.or2 {f : Value → Value → Sem Value} {r r' : R2} (h : OpR X f r) (h' : OpR X f r') : OpR X f (fun x y H Q => r x y H Q ∨ r' x y H Q) := OpR.or h h'

/-! ### ints alone -/
def iop (C : Int → Int → Prop) (g : Int → Int → D) : D → D → M → Prop
  | .int i, .int j, z => C i j ∧ z = .fz (g i j)
  | _, _, _ => False
theorem OpD.int {C : Int → Int → Prop} {g : Int → Int → V} {gd : Int → Int → D} (hz : ∀ i j F, Fz K F (g i j) (gd i j)) : OpD K (rI C g) (iop C gd) := OpD.flat fun F H x y d e z Q sb zx zy h => by
  cases zx with
  | int i =>
    cases zy with
    | int j => exact ⟨_, h.2, _, hz i j, fun q => ⟨i, j, rfl, rfl, h.1, q⟩⟩
    | _ => exact h.elim
  | _ => cases zy <;> exact h.elim
theorem OpD.int0 {g : Int → Int → V} {gd : Int → Int → D} (hz : ∀ i j F, Fz K F (g i j) (gd i j)) : OpD K (rI0 g) (iop (fun _ _ => True) gd) := OpD.flat fun F H x y d e z Q sb zx zy h => by
  cases zx with
  | int i =>
    cases zy with
    | int j => exact ⟨_, h.2, _, hz i j, fun q => ⟨i, j, rfl, rfl, q⟩⟩
    | _ => exact h.elim
  | _ => cases zy <;> exact h.elim
abbrev dLt : D → D → M → Prop := iop (fun _ _ => True) fun i j => .bl (decide (i < j))
abbrev dLe : D → D → M → Prop := iop (fun _ _ => True) fun i j => .bl (decide (i ≤ j))
abbrev dGt : D → D → M → Prop := iop (fun _ _ => True) fun i j => .bl (decide (j < i))
abbrev dGe : D → D → M → Prop := iop (fun _ _ => True) fun i j => .bl (decide (j ≤ i))
theorem od_lt : OpD K (rI0 fun i j => .bl (decide (i < j))) dLt := OpD.int0 fun _ _ _ => .bl _
theorem od_le : OpD K (rI0 fun i j => .bl (decide (i ≤ j))) dLe := OpD.int0 fun _ _ _ => .bl _
theorem od_gt : OpD K (rI0 fun i j => .bl (decide (j < i))) dGt := OpD.int0 fun _ _ _ => .bl _
theorem od_ge : OpD K (rI0 fun i j => .bl (decide (j ≤ i))) dGe := OpD.int0 fun _ _ _ => .bl _
abbrev dSub : D → D → M → Prop := iop (fun _ _ => True) fun i j => .int (i - j)
theorem od_sub : OpD K (rI0 fun i j => .int (i - j)) dSub := OpD.int0 fun _ _ _ => .int _
abbrev dMod : D → D → M → Prop := iop (fun _ j => j ≠ 0) fun i j => .int (i.fmod j)
theorem od_mod : OpD K (rI (fun _ j => j ≠ 0) fun i j => .int (i.fmod j)) dMod := OpD.int fun _ _ _ => .int _
abbrev dPow : D → D → M → Prop := iop CPow fun i j => .int (i ^ j.toNat)
theorem od_pow : OpD K (rI CPow fun i j => .int (i ^ j.toNat)) dPow := OpD.int fun _ _ _ => .int _
abbrev dShl : D → D → M → Prop := iop CPow fun i j => .int (i * 2 ^ j.toNat)
theorem od_shl : OpD K (rI CPow fun i j => .int (i * 2 ^ j.toNat)) dShl := OpD.int fun _ _ _ => .int _
abbrev dShr : D → D → M → Prop := iop (fun _ j => 0 ≤ j) fun i j => .int (i / 2 ^ j.toNat)
theorem od_shr : OpD K (rI (fun _ j => 0 ≤ j) fun i j => .int (i / 2 ^ j.toNat)) dShr := OpD.int fun _ _ _ => .int _
abbrev dAnd : D → D → M → Prop := iop (fun _ _ => True) fun i j => .int (Builtin.bitAnd i j)
theorem od_and : OpD K (rI0 fun i j => .int (Builtin.bitAnd i j)) dAnd := OpD.int0 fun _ _ _ => .int _
abbrev dOr : D → D → M → Prop := iop (fun _ _ => True) fun i j => .int (Builtin.bitOr i j)
theorem od_or : OpD K (rI0 fun i j => .int (Builtin.bitOr i j)) dOr := OpD.int0 fun _ _ _ => .int _
abbrev dXor : D → D → M → Prop := iop (fun _ _ => True) fun i j => .int (Builtin.bitXor i j)
theorem od_xor : OpD K (rI0 fun i j => .int (Builtin.bitXor i j)) dXor := OpD.int0 fun _ _ _ => .int _
/-- // : a divisor below 2^30 in size, or a positive one of any size -/
def CFd (i j : Int) : Prop := CDivN i j ∨ CDivW i j
abbrev dFdiv : D → D → M → Prop := iop CFd fun i j => .int (i.fdiv j)
theorem op_fdivA : OpR X (binaryOp .FloorDiv) (rI CFd fun i j => .int (i.fdiv j)) := fun pins s σ H x y v u Q I rx ry h => by
  obtain ⟨i, j, rfl, rfl, hc, q⟩ := h
  rcases hc with hc | hc
  · exact op_fdivN pins s σ H _ _ v u Q I rx ry ⟨i, j, rfl, rfl, hc, q⟩
  · refine op_fdivW pins s σ H _ _ v u Q I rx ry ⟨i, j, rfl, rfl, hc, ?_⟩
    have e : i / j = i.fdiv j := (Int.fdiv_eq_ediv_of_nonneg i (Int.le_of_lt hc.1)).symm
    show Q (V.int (i / j)) H
    rw [e]; exact q
theorem od_fdiv : OpD K (rI CFd fun i j => .int (i.fdiv j)) dFdiv := OpD.int fun _ _ _ => .int _

/-! ### one new object -/
theorem new_lst {F H : Hp} {p : Addr} {xs : List V} {ds : List D} (sb : Sub F H) (hp : H p = none) (z : Fzs K F xs ds) : Frm F H [] F (upd H p (.lst xs)) [p] ∧ Sub F (upd H p (.lst xs)) ∧ Ow K F (upd H p (.lst xs)) (.ref p) (.ml ds) [p] := by
  have nf : F p = none := sb.fresh hp
  have ne : ∀ a o, H a = some o → a ≠ p := fun a o h q => by subst q; rw [hp] at h; cases h
  refine ⟨.ext (fun _ _ h => h) (fun a o h => by rw [upd_ne (ne a o h)]; exact h) (fun a h => ?_) (fun a o h => .inl h), sb.upd nf (.inl hp), .ml nf upd_same z⟩
  · rcases List.mem_singleton.mp h with rfl; exact .inr hp
theorem new_tup {F H : Hp} {p : Addr} {xs : List V} {ds : List D} (sb : Sub F H) (hp : H p = none) (z : Fzs K F xs ds) : Frm F H [] (upd F p (.tup xs)) (upd H p (.tup xs)) [] ∧ Sub (upd F p (.tup xs)) (upd H p (.tup xs)) ∧ Ow K (upd F p (.tup xs)) (upd H p (.tup xs)) (.ref p) (.fz (.tup ds)) [] := by
  have ne : ∀ a o, H a = some o → a ≠ p := fun a o h q => by subst q; rw [hp] at h; cases h
  have nf : ∀ a o, F a = some o → a ≠ p := fun a o h q => by
    subst q
    rw [sb.fresh hp] at h; cases h
  have fs : ∀ a o, F a = some o → upd F p (.tup xs) a = some o := fun a o h => by rw [upd_ne (nf a o h)]; exact h
  refine ⟨.ext fs (fun a o h => by rw [upd_ne (ne a o h)]; exact h) (fun a h => nomatch h) (fun a o h => ?_) (fun a ps h => by
    by_cases q : a = p
    · subst q; rw [upd_same] at h; cases h
    · rw [upd_ne q] at h; exact h), fun a o h => ?_, .fz (.tup upd_same (z.mono (Sub.of fs)))⟩
  · by_cases q : a = p
    · subst q; exact .inr (.inr hp)
    · rw [upd_ne q] at h; exact .inl h
  · by_cases q : a = p
    · subst q; rw [upd_same] at h ⊢; exact .inl h
    · rw [upd_ne q] at h
      exact sb.upd (sb.fresh hp) (.inl hp) a o h

/-- a list or a tuple that is owned or frozen: its items are frozen -/
theorem Ow.lstV {F H : Hp} {x : V} {m : M} {B : List Addr} {ds : List D} (sb : Sub F H) (w : Ow K F H x m B) (e : m.frz = .lst ds) : ∃ a xs, x = .ref a ∧ H a = some (.lst xs) ∧ Fzs K F xs ds := by
  cases w with
  | fz z =>
    cases e
    cases z with
    | lst h r => exact ⟨_, _, rfl, sb.lst h, r⟩
  | ml n h r => cases e; exact ⟨_, _, rfl, h, r⟩
  | md n h r => cases e
  | mt n h r => cases e
theorem Ow.tupV {F H : Hp} {x : V} {m : M} {B : List Addr} {ds : List D} (sb : Sub F H) (w : Ow K F H x m B) (e : m.frz = .tup ds) : ∃ a xs, x = .ref a ∧ H a = some (.tup xs) ∧ Fzs K F xs ds ∧ Fz K F x (.tup ds) := by
  cases w with
  | fz z =>
    cases e
    cases id z with
    | tup h r => exact ⟨_, _, rfl, sb.tup h, r, z⟩
  | ml n h r => cases e
  | md n h r => cases e
  | mt n h r => cases e
theorem Ow.flatV {F H : Hp} {x : V} {m : M} {B : List Addr} (w : Ow K F H x m B) : (∀ i, m.frz = .int i → x = .int i) ∧ (∀ b, m.frz = .bl b → x = .bl b) ∧ (∀ b, m.frz = .str b → x = .str b) ∧ (m.frz = .non → x = .non) := by
  cases w with
  | fz z => cases z <;> refine ⟨fun _ e => ?_, fun _ e => ?_, fun _ e => ?_, fun e => ?_⟩ <;> cases e <;> rfl
  | ml n h r => refine ⟨fun _ e => ?_, fun _ e => ?_, fun _ e => ?_, fun e => ?_⟩ <;> cases e
  | md n h r => refine ⟨fun _ e => ?_, fun _ e => ?_, fun _ e => ?_, fun e => ?_⟩ <;> cases e
  | mt n h r => refine ⟨fun _ e => ?_, fun _ e => ?_, fun _ e => ?_, fun e => ?_⟩ <;> cases e
theorem Ow.strV {F H : Hp} {x : V} {m : M} {B : List Addr} {z : Str} (w : Ow K F H x m B) (e : m.frz = .str z) : x = .str z := w.flatV.2.2.1 z e
theorem Ow.intV {F H : Hp} {x : V} {m : M} {B : List Addr} {i : Int} (w : Ow K F H x m B) (e : m.frz = .int i) : x = .int i := w.flatV.1 i e

/-! ### + -/
def rAdd (K : PySem.W.Frag) : R2 := fun x y H Q => ((rI0 (fun i j => .int (i + j)) x y H Q ∨ (∃ i j, x = .str i ∧ y = .str j ∧ i.length + j.length ≤ sizeLine ∧ Q (.str (i ++ j)) H)) ∨ rCatA K x y H Q) ∨ rCat x y H Q
theorem op_addA (hK : X.K = K) : OpR X (binaryOp .Add) (rAdd K) := by
  subst hK
  exact OpR.or2 (OpR.or2 (OpR.or2 op_add op_add_str) op_catA) op_cat
def dAdd : D → D → M → Prop
  | .int i, .int j, z => z = .fz (.int (i + j))
  | .str a, .str b, z => a.length + b.length ≤ sizeLine ∧ z = .fz (.str (a ++ b))
  | .tup xs, .tup ys, z => xs.length + ys.length ≤ sizeLine ∧ z = .fz (.tup (xs ++ ys))
  | .lst xs, .lst ys, z => xs.length + ys.length ≤ sizeLine ∧ z = .ml (xs ++ ys)
  | _, _, _ => False
theorem od_add : OpD K (rAdd K) dAdd := by
  intro F H x y m1 m2 B1 B2 z Q sb w1 w2 hz k
  generalize e1 : m1.frz = d1 at hz
  generalize e2 : m2.frz = d2 at hz
  cases d1 with
  | int i =>
    cases d2 with
    | int j =>
      cases hz
      exact .inl (.inl (.inl ⟨i, j, w1.intV e1, w2.intV e2, k _ F H [] Frm.refl sb (.fz (.int _)) List.nodup_nil⟩))
    | _ => exact hz.elim
  | str i =>
    cases d2 with
    | str j =>
      obtain ⟨hl, rfl⟩ := hz
      exact .inl (.inl (.inr ⟨i, j, w1.strV e1, w2.strV e2, hl, k _ F H [] Frm.refl sb (.fz (.str _)) List.nodup_nil⟩))
    | _ => exact hz.elim
  | tup ds =>
    cases d2 with
    | tup es =>
      obtain ⟨hl, rfl⟩ := hz
      obtain ⟨a, xs, rfl, h1, z1, f1⟩ := w1.tupV sb e1
      obtain ⟨b, ys, rfl, h2, z2, f2⟩ := w2.tupV sb e2
      have l1 := z1.length
      have l2 := z2.length
      refine .inl (.inr ⟨a, b, xs, ys, rfl, rfl, SqT.of h1, SqT.of h2, by omega, fun q => ?_, fun _ q => ?_, fun _ _ p hp => ?_⟩)
      · have : ds = [] := by
          subst q; cases z1; rfl
        subst this
        exact k _ F H [] Frm.refl sb (.fz f2) List.nodup_nil
      · have : es = [] := by
          subst q; cases z2; rfl
        subst this
        exact k _ F H [] Frm.refl sb (.fz (by simpa using f1)) List.nodup_nil
      · obtain ⟨g, s2, o⟩ := new_tup sb hp (z1.append z2)
        exact k _ _ _ _ g s2 o List.nodup_nil
    | _ => exact hz.elim
  | lst ds =>
    cases d2 with
    | lst es =>
      obtain ⟨hl, rfl⟩ := hz
      obtain ⟨a, xs, rfl, h1, z1⟩ := w1.lstV sb e1
      obtain ⟨b, ys, rfl, h2, z2⟩ := w2.lstV sb e2
      have l1 := z1.length
      have l2 := z2.length
      refine .inr ⟨a, b, xs, ys, rfl, rfl, h1, h2, by omega, fun p hp => ?_⟩
      obtain ⟨g, s2, o⟩ := new_lst sb hp (z1.append z2)
      exact k _ _ _ _ g s2 o (by simp)
    | _ => exact hz.elim
  | _ => cases d2 <;> exact hz.elim

/-! ### * -/
theorem Fzs.rep {H : Hp} {xs : List V} {ds : List D} (z : Fzs K H xs ds) : ∀ k : Nat, Fzs K H (List.replicate k xs).flatten (List.replicate k ds).flatten
  | 0 => .nil
  | k + 1 => by
    rw [List.replicate_succ, List.replicate_succ, List.flatten_cons, List.flatten_cons]
    exact z.append (z.rep k)
def rMul (K : PySem.W.Frag) : R2 := fun x y H Q => (rI CMul (fun i j => .int (i * j)) x y H Q ∨ rRepT K x y H Q) ∨ rRep x y H Q
theorem op_mulA (hK : X.K = K) : OpR X (binaryOp .Mult) (rMul K) := by
  subst hK
  exact OpR.or2 (OpR.or2 op_mul op_repT) op_rep
def dMul : D → D → M → Prop
  | .int i, .int j, z => CMul i j ∧ z = .fz (.int (i * j))
  | .tup ds, .int k, z => ds ≠ [] ∧ 2 ≤ k ∧ k ≤ 1000 ∧ ds.length ≤ 1000 ∧ z = .fz (.tup (List.replicate k.toNat ds).flatten)
  | .lst ds, .int k, z => -(2 ^ 63) ≤ k ∧ k < 2 ^ 63 ∧ ds.length * k.toNat ≤ sizeLine ∧ z = .ml (List.replicate k.toNat ds).flatten
  | _, _, _ => False
theorem od_mul : OpD K (rMul K) dMul := by
  intro F H x y m1 m2 B1 B2 z Q sb w1 w2 hz k
  generalize e1 : m1.frz = d1 at hz
  generalize e2 : m2.frz = d2 at hz
  cases d1 with
  | int i =>
    cases d2 with
    | int j =>
      obtain ⟨hc, rfl⟩ := hz
      exact .inl (.inl ⟨i, j, w1.intV e1, w2.intV e2, hc, k _ F H [] Frm.refl sb (.fz (.int _)) List.nodup_nil⟩)
    | _ => exact hz.elim
  | tup ds =>
    cases d2 with
    | int j =>
      obtain ⟨hne, h1, h2, hl, rfl⟩ := hz
      obtain ⟨a, xs, rfl, hx, z1, f1⟩ := w1.tupV sb e1
      have l1 := z1.length
      refine .inl (.inr ⟨a, j, xs, rfl, w2.intV e2, SqT.of hx, fun q => hne (by subst q; cases z1; rfl), h1, h2, by omega, fun p hp => ?_⟩)
      obtain ⟨g, s2, o⟩ := new_tup sb hp (z1.rep j.toNat)
      exact k _ _ _ _ g s2 o List.nodup_nil
    | _ => exact hz.elim
  | lst ds =>
    cases d2 with
    | int j =>
      obtain ⟨h1, h2, hl, rfl⟩ := hz
      obtain ⟨a, xs, rfl, hx, z1⟩ := w1.lstV sb e1
      have l1 := z1.length
      refine .inr ⟨a, j, xs, rfl, w2.intV e2, hx, h1, h2, by rw [l1]; exact hl, fun p hp => ?_⟩
      obtain ⟨g, s2, o⟩ := new_lst sb hp (z1.rep j.toNat)
      exact k _ _ _ _ g s2 o (by simp)
    | _ => exact hz.elim
  | _ => cases d2 <;> exact hz.elim

/-! ### ==, != -/
def D.eqS : D → D → Option Bool
  | .non, .non => some true | .non, .int _ => some false | .int _, .non => some false | .non, .bl _ => some false | .bl _, .non => some false | .non, .str _ => some false | .str _, .non => some false
  | .int i, .int j => some (decide (i = j)) | .bl i, .bl j => some (decide (i = j)) | .str i, .str j => some (decide (i = j))
  | .int _, .str _ => some false | .str _, .int _ => some false | .bl _, .str _ => some false | .str _, .bl _ => some false
  | _, _ => none
mutual
def D.py : D → PyData
  | .non => .none
  | .bl b => .bool b
  | .int i => .int i
  | .str x => .str x
  | .tup ds => .tuple (D.pys ds)
  | .wtu ds => .tuple (D.pys ds)
  | .lst ds => .list (D.pys ds)
  | _ => .dict []
def D.pys : List D → List PyData
  | [] => []
  | d :: ds => d.py :: D.pys ds
end
mutual
theorem Fz.dp {H : Hp} : ∀ {v : V} {d : D}, Fz K H v d → d.py.canLay0 = true → Dp K H v d.py
  | _, _, .non, _ => .non
  | _, _, .bl b, _ => .bl b
  | _, _, .int i, _ => .int i
  | _, _, .str x, _ => .str x
  | _, _, .tup h r, c => .tup (SqT.of h) (Fzs.dp r (by simpa [D.py, PyData.canLay0] using c))
  | _, _, .wtu h r, c => .tup (.inr h) (Fzs.dp r (by simpa [D.py, PyData.canLay0] using c))
  | _, _, .lst h r, c => .lst (SqL.of h) (Fzs.dp r (by simpa [D.py, PyData.canLay0] using c))
  | _, _, .dic _ _, c => by simp [D.py, PyData.canLay0] at c
  | _, _, .scr _, c => by simp [D.py, PyData.canLay0] at c
  | _, _, .dit _ _, c => by simp [D.py, PyData.canLay0] at c
  | _, _, .obj _ _, c => by simp [D.py, PyData.canLay0] at c
  | _, _, .ref _, c => by simp [D.py, PyData.canLay0] at c
  | _, _, .ty _, c => by simp [D.py, PyData.canLay0] at c
theorem Fzs.dp {H : Hp} : ∀ {v : List V} {d : List D}, Fzs K H v d → PyData.canLayAll0 (D.pys d) = true → DpAll K H v (D.pys d)
  | _, _, .nil, _ => .nil
  | _, _, .cons h r, c => by
    simp only [D.pys, PyData.canLayAll0, Bool.and_eq_true] at c
    exact .cons (Fz.dp h c.1) (Fzs.dp r c.2)
end
def dEqB (x y : D) (b : Bool) : Prop := D.eqS x y = some b ∨ (SeqAt.shaped x.py = true ∧ SeqAt.shaped y.py = true ∧ b = PyData.eqv x.py y.py)
def dEq : D → D → M → Prop := fun x y z => ∃ b, dEqB x y b ∧ z = .fz (.bl b)
def dNe : D → D → M → Prop := fun x y z => ∃ b, dEqB x y b ∧ z = .fz (.bl (!b))
theorem eqS_ok {H : Hp} {x y : V} {d e : D} {b : Bool} (zx : Fz K H x d) (zy : Fz K H y e) (h : D.eqS d e = some b) : scal x y = true ∧ b = decide (x = y) := by
  cases zx <;> cases zy <;> (simp only [D.eqS] at h) <;> first
    | (cases h; refine ⟨rfl, ?_⟩; simp)
    | (cases h)
def rEqA (K : PySem.W.Frag) : R2 := fun x y H Q => rEq x y H Q ∨ rEqD K x y H Q
def rNeA (K : PySem.W.Frag) : R2 := fun x y H Q => rNe x y H Q ∨ rNeD K x y H Q
theorem op_eqA (hK : X.K = K) (hu : X.A.units + 64 < cLine) : OpR X (compareOp .Eq) (rEqA K) := by
  subst hK
  exact OpR.or2 op_eq (op_eqD hu)
theorem op_neA (hK : X.K = K) (hu : X.A.units + 64 < cLine) : OpR X (compareOp .NotEq) (rNeA K) := by
  subst hK
  exact OpR.or2 op_ne (op_neD hu)
theorem od_eq : OpD K (rEqA K) dEq := OpD.flat fun F H x y d e z Q sb zx zy h => by
  obtain ⟨b, h, rfl⟩ := h
  refine ⟨_, rfl, .bl b, fun F => .bl b, fun q => ?_⟩
  rcases h with h | ⟨h1, h2, rfl⟩
  · obtain ⟨hs, rfl⟩ := eqS_ok zx zy h
    exact .inl ⟨hs, q⟩
  · exact .inr ⟨_, _, zx.dp (SeqAt.canLay_of_shaped h1), zy.dp (SeqAt.canLay_of_shaped h2), h1, h2, q⟩
theorem od_ne : OpD K (rNeA K) dNe := OpD.flat fun F H x y d e z Q sb zx zy h => by
  obtain ⟨b, h, rfl⟩ := h
  refine ⟨_, rfl, .bl (!b), fun F => .bl _, fun q => ?_⟩
  rcases h with h | ⟨h1, h2, rfl⟩
  · obtain ⟨hs, rfl⟩ := eqS_ok zx zy h
    exact .inl ⟨hs, q⟩
  · exact .inr ⟨_, _, zx.dp (SeqAt.canLay_of_shaped h1), zy.dp (SeqAt.canLay_of_shaped h2), h1, h2, q⟩
def dIs : D → D → M → Prop
  | d, .non, z => z = .fz (.bl (match d with | .non => true | _ => false))
  | _, _, _ => False
def dIsNot : D → D → M → Prop
  | d, .non, z => z = .fz (.bl (match d with | .non => false | _ => true))
  | _, _, _ => False
theorem od_is : OpD K (fun x y H Q => y = .non ∧ Q (.bl (decide (x = .non))) H) dIs := OpD.flat fun F H x y d e z Q sb zx zy h => by
  cases zy with
  | non =>
    refine ⟨_, h, .bl _, fun F => .bl _, fun q => ⟨rfl, ?_⟩⟩
    cases zx <;> exact q
  | _ => exact h.elim
theorem od_isnot : OpD K (fun x y H Q => y = .non ∧ Q (.bl (!decide (x = .non))) H) dIsNot := OpD.flat fun F H x y d e z Q sb zx zy h => by
  cases zy with
  | non =>
    refine ⟨_, h, .bl _, fun F => .bl _, fun q => ⟨rfl, ?_⟩⟩
    cases zx <;> exact q
  | _ => exact h.elim
end
end DL

namespace DL
open PySem PySem.Spec L2

structure DEnds where
  nx : DSt → Prop
  rt : M → DSt → Prop
  bk : DSt → Prop := fun _ => False
  ct : DSt → Prop := fun _ => False
abbrev TSd := DEnds → DSt → Prop
/-- what is wished of the ends, told in data -/
structure EImp (K : PySem.W.Frag) (Dd : DEnds) (D : Ends) (F H : Hp) (A : List Addr) : Prop where
  nx : ∀ (σ' : L2.St) (s' : DSt) (F' H' : Hp) (A' : List Addr), Frm F H A F' H' A' → Sub F' H' → OwS K F' H' σ' s' A' → A'.Nodup → Dd.nx s' → D.nx σ' H'
  bk : ∀ (σ' : L2.St) (s' : DSt) (F' H' : Hp) (A' : List Addr), Frm F H A F' H' A' → Sub F' H' → OwS K F' H' σ' s' A' → A'.Nodup → Dd.bk s' → D.bk σ' H'
  ct : ∀ (σ' : L2.St) (s' : DSt) (F' H' : Hp) (A' : List Addr), Frm F H A F' H' A' → Sub F' H' → OwS K F' H' σ' s' A' → A'.Nodup → Dd.ct s' → D.ct σ' H'
  rt : ∀ (v : V) (m : M) (σ' : L2.St) (s' : DSt) (F' H' : Hp) (Av A' : List Addr), Frm F H A F' H' (Av ++ A') → Sub F' H' → Ow K F' H' v m Av → OwS K F' H' σ' s' A' → (Av ++ A').Nodup → Dd.rt m s' → D.rt v H'
theorem EImp.step {K : PySem.W.Frag} {Dd : DEnds} {D : Ends} {F H F' H' : Hp} {A A' : List Addr} (e : EImp K Dd D F H A) (f : Frm F H A F' H' A') : EImp K Dd D F' H' A' :=
  ⟨fun σ s F2 H2 A2 g => e.nx σ s F2 H2 A2 (f.trans0 g), fun σ s F2 H2 A2 g => e.bk σ s F2 H2 A2 (f.trans0 g), fun σ s F2 H2 A2 g => e.ct σ s F2 H2 A2 (f.trans0 g),
    fun v m σ s F2 H2 Av A2 g => e.rt v m σ s F2 H2 Av A2 (f.trans0 g)⟩
def LiftS (Z : ZX) (t : TS) (m : TSd) : Prop := ∀ (σ : L2.St) (H F : Hp) (A : List Addr) (s : DSt) (D : Ends) (Dd : DEnds), Rel Z F H σ s A → m Dd s → EImp Z.K Dd D F H A → t D σ H
structure DS (Z : ZX) (X : Cx) (st : Stmt) (t : TS) (m : TSd) : Prop where
  ps : PS X st t
  lf : LiftS Z t m
structure DSs (Z : ZX) (X : Cx) (st : List Stmt) (t : TS) (m : TSd) : Prop where
  ps : PSs X st t
  lf : LiftS Z t m
section
variable {Z : ZX} {X : Cx} {K : PySem.W.Frag} {F H F1 H1 F2 H2 : Hp} {A A1 A2 Av B : List Addr} {σ : L2.St} {s s1 s2 : DSt} {v : V} {w : W} {pos : Pos}

def mNext : TSd := fun D s => D.nx s
def mSeq (m n : TSd) : TSd := fun D s => m { D with nx := n D } s
theorem LiftS.next : LiftS Z tNext mNext := fun σ H F A s D Dd R h e => e.nx σ s F H A Frm.refl R.sub R.own R.nd h
theorem LiftS.seq {t u : TS} {m n : TSd} (l : LiftS Z t m) (l' : LiftS Z u n) : LiftS Z (tSeq t u) (mSeq m n) := by
  intro σ H F A s D Dd R h e
  refine l σ H F A s _ _ R h ⟨fun σ' s' F' H' A' f sb ow nd q => ?_, e.bk, e.ct, e.rt⟩
  exact l' σ' H' F' A' s' D Dd ⟨sb, ow, nd, R.ex.step f⟩ q (e.step f)
theorem dss_nil : DSs Z X [] tNext mNext := ⟨pss_nil, .next⟩
theorem dss_cons {st : Stmt} {rest : List Stmt} {t u : TS} {m n : TSd} (h : DS Z X st t m) (h' : DSs Z X rest u n) : DSs Z X (st :: rest) (tSeq t u) (mSeq m n) := ⟨pss_cons h.ps h'.ps, h.lf.seq h'.lf⟩
theorem dss_one {st : Stmt} {t : TS} {m : TSd} (h : DS Z X st t m) : DSs Z X [st] t m := ⟨pss_one h.ps, h.lf⟩
theorem dss_never {sts : List Stmt} : DSs Z X sts tNever (fun _ _ => False) := ⟨pss_never, fun _ _ _ _ _ _ _ _ h _ => h⟩
def mBreak : TSd := fun D s => D.bk s
def mCont : TSd := fun D s => D.ct s
theorem ds_pass : DS Z X (.Pass pos) tNext mNext := ⟨ps_pass, .next⟩
theorem ds_break : DS Z X (.Break pos) tBreak mBreak := ⟨ps_break, fun σ H F A s D Dd R h e => e.bk σ s F H A Frm.refl R.sub R.own R.nd h⟩
theorem ds_continue : DS Z X (.Continue pos) tCont mCont := ⟨ps_continue, fun σ H F A s D Dd R h e => e.ct σ s F H A Frm.refl R.sub R.own R.nd h⟩
/-- an expression whose value is dropped -/
def mDrop (m : TD) : TSd := fun D s => m s fun _ s' => D.nx s'
theorem LiftS.drop {t : TE} {m : TD} (l : Lift Z t m) : LiftS Z (tDrop t) (mDrop m) := by
  intro σ H F A s D Dd R h e
  refine l σ H F A s _ _ R h fun w s1 v F1 H1 Av A1 h1 o1 => ?_
  have o := o1.t
  exact e.nx σ s1 F1 H1 A1 o.fr o.sub o.own o.nd h1
theorem ds_expr {ex : Expr} {t : TE} {m : TD} (h : DE Z X ex t m) (hs : swapsWith ex none pos.line X.env = pure false := by rfl) : DS Z X (.Expr ex pos) (tDrop t) (mDrop m) := ⟨ps_expr h.pe hs, .drop h.lf⟩
/-- return: a name's own thing is handed over -/
def rv (w : W) (s : DSt) (Q : M → DSt → Prop) : Prop :=
  match w with
  | .val m => Q m s
  | .slot i => match s[i]? with
    | some (.v m) => Q m (s.set i .un)
    | _ => False
theorem OwS.take : ∀ {σ : L2.St} {s : DSt} {A : List Addr} {i : Nat} {m : M}, OwS K F H σ s A → s[i]? = some (.v m) → ∃ x B C E, σ[i]? = some (some x) ∧ Ow K F H x m B ∧ A = C ++ B ++ E ∧ OwS K F H σ (s.set i .un) (C ++ E)
  | _, _, _, i, _, .nil, h => by simp at h
  | _, _, _, 0, _, .un r, h => by cases h
  | _, _, _, 0, _, .v (A1 := A1) (A2 := A2) w r, h => by
    cases h
    exact ⟨_, A1, [], A2, rfl, w, rfl, .un r⟩
  | _, _, _, 0, _, .p w r, h => by cases h
  | _, _, _, i + 1, _, .un r, h => by
    obtain ⟨x, B, C, E, e, o, hA, k⟩ := OwS.take (i := i) r (by simpa using h)
    exact ⟨x, B, C, E, by simpa using e, o, hA, .un k⟩
  | _, _, _, i + 1, _, .v (A1 := A1) w r, h => by
    obtain ⟨x, B, C, E, e, o, hA, k⟩ := OwS.take (i := i) r (by simpa using h)
    exact ⟨x, B, A1 ++ C, E, by simpa using e, o, by simp [hA], by simpa using OwS.v w k⟩
  | _, _, _, i + 1, _, .p (A1 := A1) w r, h => by
    obtain ⟨x, B, C, E, e, o, hA, k⟩ := OwS.take (i := i) r (by simpa using h)
    exact ⟨x, B, A1 ++ C, E, by simpa using e, o, by simp [hA], by simpa using OwS.p w k⟩
def mRet (m : TD) : TSd := fun D s => m s fun w s' => rv w s' D.rt
theorem LiftS.ret {t : TE} {m : TD} (l : Lift Z t m) : LiftS Z (tRet t) (mRet m) := by
  intro σ H F A s D Dd R h e
  refine l σ H F A s _ _ R h fun w s1 v F1 H1 Av A1 h1 o1 => ?_
  cases w with
  | val m =>
    cases o1.wow with
    | val ow => exact e.rt v m σ s1 F1 H1 Av A1 o1.fr o1.sub ow o1.own o1.nd h1
  | slot i =>
    cases o1.wow with
    | slot ee =>
      unfold rv at h1
      cases es : s1[i]? with
      | none => simp [es] at h1
      | some sl =>
        cases sl with
        | un => simp [es] at h1
        | p x m => simp [es] at h1
        | v m =>
          simp [es] at h1
          obtain ⟨x, B1, C, E, e', o2, hA, k⟩ := o1.own.take es
          rw [ee] at e'
          cases e'
          have ndA : (C ++ B1 ++ E).Nodup := by rw [← hA]; simpa using o1.nd
          have hs : ∀ a ∈ B1 ++ (C ++ E), a ∈ A1 := fun a ha => by
            rw [hA, mem3]
            simp at ha
            rcases ha with q | q | q <;> simp [q]
          refine e.rt v m σ _ F1 H1 B1 (C ++ E) (o1.fr.weak fun a ha => ?_) o1.sub o2 k ?_ h1
          · simpa using hs a ha
          · refine nd_mk (nd_r (nd_l ndA)) (nd_mk (nd_l (nd_l ndA)) (nd_r ndA) fun a ha hb => nd_x ndA a (List.mem_append_left _ ha) hb) fun a ha hb => ?_
            rcases List.mem_append.mp hb with q | q
            · exact nd_x (nd_l ndA) a q ha
            · exact nd_x ndA a (List.mem_append_right _ ha) q
theorem ds_ret {ex : Expr} {t : TE} {m : TD} (h : DE Z X ex t m) : DS Z X (.Return (some ex) pos) (tRet t) (mRet m) := ⟨ps_ret h.pe, .ret h.lf⟩
def mRetN : TSd := fun D s => D.rt (.fz .non) s
theorem ds_retN : DS Z X (.Return none pos) tRetN mRetN := ⟨ps_retN, fun σ H F A s D Dd R h e => e.rt .non _ σ s F H [] A Frm.refl R.sub (.fz .non) R.own R.nd h⟩
def mIfS (c : TTd) (m n : TSd) : TSd := fun D s => c s fun b s1 => if b = true then m D s1 else n D s1
theorem LiftS.ife {c : TT} {t u : TS} {mc : TTd} {m n : TSd} (lc : LiftT Z c mc) (l : LiftS Z t m) (l' : LiftS Z u n) : LiftS Z (tIfS c t u) (mIfS mc m n) := by
  intro σ H F A s D Dd R h e
  refine lc σ H F A s _ _ R h fun b s1 F1 H1 A1 h1 o1 => ?_
  cases b with
  | true =>
    rw [if_pos rfl] at h1 ⊢
    exact l σ H1 F1 A1 s1 D Dd (o1.rel R) h1 (e.step o1.fr)
  | false =>
    rw [if_neg Bool.false_ne_true] at h1 ⊢
    exact l' σ H1 F1 A1 s1 D Dd (o1.rel R) h1 (e.step o1.fr)
theorem ds_if {c : Expr} {a b : List Stmt} {tc : TT} {t u : TS} {mc : TTd} {m n : TSd} (hc : DT Z X c tc mc) (ha : DSs Z X a t m) (hb : DSs Z X b u n) : DS Z X (.If c a b pos) (tIfS tc t u) (mIfS mc m n) := ⟨ps_if hc.pt ha.ps hb.ps, .ife hc.lf ha.lf hb.lf⟩

/-! ### targets -/
/-- a target: the value that it takes, the state, what follows -/
abbrev TGd := M → DSt → (DSt → Prop) → Prop
def LiftG (Z : ZX) (t : TG) (m : TGd) : Prop := ∀ (σ : L2.St) (H F : Hp) (B A : List Addr) (s : DSt) (x : V) (y : M) (Q : L2.St → Hp → Prop) (Qd : DSt → Prop), Sub F H → Ow Z.K F H x y B → OwS Z.K F H σ s A → (B ++ A).Nodup → m y s Qd →
  (∀ σ' s' F' H' A', Qd s' → Frm F H (B ++ A) F' H' A' → Sub F' H' → OwS Z.K F' H' σ' s' A' → A'.Nodup → Q σ' H') → t x σ H Q
structure DG (Z : ZX) (X : Cx) (tg : Expr) (t : TG) (m : TGd) : Prop where
  pg : PG X tg t
  lf : LiftG Z t m
/-- a name: not one that the caller lent -/
def gNm (i : Nat) : TGd := fun y s Q => match s[i]? with
  | some .un => Q (s.set i (.v y))
  | some (.v _) => Q (s.set i (.v y))
  | _ => False
theorem LiftG.name {i : Nat} : LiftG Z (gName i) (gNm i) := by
  intro σ H F B A s x y Q Qd sb w ow nd h k
  unfold gNm at h
  cases es : s[i]? with
  | none => simp [es] at h
  | some sl =>
    have hp : sl.pinned = false ∧ Qd (s.set i (.v y)) := by
      cases sl with
      | un => simp [es] at h; exact ⟨rfl, h⟩
      | p x m => simp [es] at h
      | v m => simp [es] at h; exact ⟨rfl, h⟩
    obtain ⟨A', k1, k2, k3⟩ := ow.store es hp.1 w
    exact k _ _ F H A' hp.2 (.ext (fun _ _ h => h) (fun _ _ h => h) (fun a ha => .inl (List.mem_append.mpr (k2 a ha))) (fun _ _ h => .inl h)) sb k1 (k3 nd)
theorem dg_name {i : Nat} {x : Str} (hN : X.N.Nodup) (hi : X.N[i]? = some x) (hx : Loc X.env.scope x) (hf : X.fn x = true ∨ X.env.scope.names.lookup x = some .local := by first | exact .inl rfl | exact .inr rfl | assumption) : DG Z X (.Name x pos) (gName i) (gNm i) := ⟨pg_name hN hi hx hf, .name⟩
def mAsg (m : TD) (g : TGd) : TSd := fun D s => m s fun w s' => tv w s' fun y s2 => g y s2 D.nx
theorem LiftS.asg {t : TE} {g : TG} {m : TD} {gd : TGd} (l : Lift Z t m) (lg : LiftG Z g gd) : LiftS Z (tAsg t g) (mAsg m gd) := by
  intro σ H F A s D Dd R h e
  refine l σ H F A s _ _ R h fun w s1 v F1 H1 Av A1 h1 o1 => ?_
  obtain ⟨y, s2, F2, B2, A2, h2, f2, sb2, w2, ow2, nd2, hB, hA⟩ := tv_ok o1.wow o1.sub o1.own o1.nd h1
  have f12 := o1.fr.trans0 f2
  refine lg σ H1 F2 B2 A2 s2 v y _ _ sb2 w2 ow2 nd2 h2 fun σ' s' F' H' A' q f sb ow nd => ?_
  exact e.nx σ' s' F' H' A' (f12.trans0 f) sb ow nd q
theorem ds_set {i : Nat} {x : Str} {ex : Expr} {t : TE} {m : TD} {pos' : Pos} (hN : X.N.Nodup) (hi : X.N[i]? = some x) (hx : Loc X.env.scope x) (he : DE Z X ex t m) (hs : swapsWith ex (some (.Name x pos')) pos.line X.env = pure false := by rfl) (hf : X.fn x = true ∨ X.env.scope.names.lookup x = some .local := by first | exact .inl rfl | exact .inr rfl | assumption) : DS Z X (.Assign [.Name x pos'] ex pos) (tAsg t (gName i)) (mAsg m (gNm i)) :=
  ⟨ps_set hN hi hx he.pe hs hf, .asg he.lf .name⟩
/-- several targets, given frozen things -/
abbrev TGds := List D → DSt → (DSt → Prop) → Prop
def LiftGs (Z : ZX) (t : TGs) (m : TGds) : Prop := ∀ (σ : L2.St) (H F : Hp) (A : List Addr) (s : DSt) (xs : List V) (ys : List D) (Q : L2.St → Hp → Prop) (Qd : DSt → Prop), Sub F H → Fzs Z.K F xs ys → OwS Z.K F H σ s A → A.Nodup → m ys s Qd →
  (∀ σ' s' F' H' A', Qd s' → Frm F H A F' H' A' → Sub F' H' → OwS Z.K F' H' σ' s' A' → A'.Nodup → Q σ' H') → t xs σ H Q
structure DGs (Z : ZX) (X : Cx) (tg : List Expr) (t : TGs) (m : TGds) : Prop where
  pg : PGs X tg t
  lf : LiftGs Z t m
def gNilD : TGds := fun ys s Q => ys = [] ∧ Q s
def gConsD (g : TGd) (h : TGds) : TGds := fun ys s Q => ∃ y r, ys = y :: r ∧ g (.fz y) s fun s' => h r s' Q
theorem dgs_nil : DGs Z X [] gNil gNilD := ⟨pgs_nil, fun σ H F A s xs ys Q Qd sb z ow nd h k => by
  obtain ⟨rfl, q⟩ := h
  cases z
  exact ⟨rfl, k _ _ F H A q Frm.refl sb ow nd⟩⟩
theorem LiftGs.cons {t : TG} {u : TGs} {m : TGd} {n : TGds} (l : LiftG Z t m) (l' : LiftGs Z u n) : LiftGs Z (gCons t u) (gConsD m n) := by
  intro σ H F A s xs ys Q Qd sb z ow nd h k
  obtain ⟨y, r, rfl, h⟩ := h
  cases z with
  | cons z1 zr =>
    refine ⟨_, _, rfl, ?_⟩
    refine l σ H F [] A s _ _ _ _ sb (.fz z1) ow nd h fun σ' s' F' H' A' q f sb' ow' nd' => ?_
    refine l' σ' H' F' A' s' _ r Q Qd sb' (zr.mono (Sub.of f.fsub)) ow' nd' q fun σ2 s2 F2 H2 A2 q2 f2 sb2 ow2 nd2 => k σ2 s2 F2 H2 A2 q2 (f.trans0 f2) sb2 ow2 nd2
theorem dgs_cons {e : Expr} {es : List Expr} {t : TG} {u : TGs} {m : TGd} {n : TGds} (h1 : DG Z X e t m) (h2 : DGs Z X es u n) (hs : (assignEach (e :: es) X.env).map (·.2) = assign e X.env :: (assignEach es X.env).map (·.2) := by rfl) : DGs Z X (e :: es) (gCons t u) (gConsD m n) := ⟨pgs_cons h1.pg h2.pg hs, .cons h1.lf h2.lf⟩
def gTupD (n : Nat) (g : TGds) : TGd := fun y s Q => ∃ ds, y.frz = .tup ds ∧ ds.length = n ∧ g ds s Q
theorem LiftG.tup {n : Nat} {t : TGs} {m : TGds} (l : LiftGs Z t m) : LiftG Z (gTup Z.K n t) (gTupD n m) := by
  intro σ H F B A s x y Q Qd sb w ow nd h k
  obtain ⟨ds, e, hl, h⟩ := h
  obtain ⟨a, xs, rfl, h1, z1, _⟩ := w.tupV sb e
  refine ⟨a, xs, rfl, SqT.of h1, by rw [z1.length]; exact hl, ?_⟩
  refine l σ H F A s xs ds Q Qd sb z1 ow (nd_r nd) h fun σ' s' F' H' A' q f sb' ow' nd' => k σ' s' F' H' A' q ?_ sb' ow' nd'
  exact f.more (fun a q => List.mem_append_right _ q) (fun a ha => (f.new a ha).imp (List.mem_append_right _) id)
theorem dg_tup {es : List Expr} {k : Nat} {t : TGs} {m : TGds} {n : Nat} (hc : X.calm = true) (hK : X.K = Z.K) (h : DGs Z X es t m) (hn : (assignEach es X.env).length = n := by rfl) (hst : (assignEach es X.env).findIdx? (·.1) = none := by rfl) : DG Z X (.Tuple es k pos) (gTup Z.K n t) (gTupD n m) :=
  ⟨by rw [← hK]; exact pg_tup hc h.pg hn hst, .tup h.lf⟩
theorem ds_asg {tg ex : Expr} {t : TE} {g : TG} {m : TD} {gd : TGd} (he : DE Z X ex t m) (hg : DG Z X tg g gd) (hs : swapsWithSole [tg] ex pos.line X.env = pure false := by rfl) (hw : swappedStores [tg] ex X.env = pure none := by rfl) (h1 : (assignEach [tg] X.env).map (·.2) = [assign tg X.env] := by rfl) : DS Z X (.Assign [tg] ex pos) (tAsg t g) (mAsg m gd) :=
  ⟨ps_asg he.pe hg.pg hs hw h1, .asg he.lf hg.lf⟩
/-- x += e, x flat or frozen -/
def mAug (i : Nat) (m : TD) (f : D → D → M → Prop) : TSd := fun D s => match s[i]? with
  | some (.v (.fz x)) => m s fun w s1 => ∃ y z, res s1 w = some y ∧ f x y z ∧ gNm i z s1 D.nx
  | _ => False
theorem LiftS.aug {i : Nat} {t : TE} {r : TIp} {m : TD} {f : D → D → M → Prop} (l : Lift Z t m) (ho : OpD Z.K r f) : LiftS Z (tAug i t r) (mAug i m f) := by
  intro σ H F A s D Dd R h e
  unfold mAug at h
  cases es : s[i]? with
  | none => simp [es] at h
  | some sl =>
    cases sl with
    | un => simp [es] at h
    | p x m => simp [es] at h
    | v m0 =>
      cases m0 with
      | ml ds => simp [es] at h
      | md ds => simp [es] at h
      | mt ds => simp [es] at h
      | fz x =>
        simp only [es] at h
        obtain ⟨vx, C, ev, ow1, hC⟩ := R.own.get es rfl
        cases ow1 with
        | fz zz =>
          refine ⟨vx, ev, l σ H F A s _ _ R h fun w s1 v F1 H1 Av A1 h1 o1 => ?_⟩
          obtain ⟨y, z, ey, hf, q⟩ := h1
          obtain ⟨m2, C2, w2, rfl⟩ := o1.wow.res o1.own ey
          have zz1 := zz.mono (Sub.of o1.fr.fsub)
          refine ho F1 H1 vx v (.fz _) m2 [] C2 z _ o1.sub (.fz zz1) w2 hf fun u F' H' Au g sb ow nu => ?_
          have o3 := Out.fin (σ := σ) o1.fr o1.own o1.nd g sb ow nu
          cases o3.wow with
          | val ow3 =>
            exact LiftG.name σ H' F' Au A1 s1 u z _ _ sb ow3 o3.own o3.nd q fun σ' s' F2 H2 A2 q2 f2 sb2 ow2 nd2 => e.nx σ' s' F2 H2 A2 (o3.fr.trans0 f2) sb2 ow2 nd2 q2
theorem ds_aug {i : Nat} {x : Str} {ex : Expr} {t : TE} {m : TD} {op : Operator} {r : TIp} {f : D → D → M → Prop} {pos' : Pos} (hN : X.N.Nodup) (hi : X.N[i]? = some x) (hx : Loc X.env.scope x) (he : DE Z X ex t m) (ho : PIp X op r) (hd : OpD Z.K r f) (hf : X.fn x = true ∨ X.env.scope.names.lookup x = some .local := by first | exact .inl rfl | exact .inr rfl | assumption) : DS Z X (.AugAssign (.Name x pos') op ex pos) (tAug i t r) (mAug i m f) :=
  ⟨ps_aug hN hi hx he.pe ho hf, .aug he.lf hd⟩
end
end DL

namespace DL
open PySem PySem.Spec L2

section
variable {Z : ZX} {X : Cx} {K : PySem.W.Frag} {F H F1 H1 F2 H2 F3 H3 F' H' : Hp} {A A1 A2 A' Av B : List Addr} {σ : L2.St} {s s1 s2 : DSt} {v : V} {w : W} {pos : Pos}

/-! ### arguments -/
def mNil : TDs := fun s Q => Q [] s
def mCons (m : TD) (n : TDs) : TDs := fun s Q => m s fun w s1 => n s1 fun ws s2 => Q (w :: ws) s2
theorem Lifts.nil : Lifts Z tNil mNil := fun σ H F A s Q Qd R h k => k _ _ _ _ _ [] _ h ⟨Frm.refl, R.sub, .nil, R.own, R.nd⟩
theorem Lifts.cons {t : TE} {u : TA} {m : TD} {n : TDs} (l : Lift Z t m) (l' : Lifts Z u n) : Lifts Z (tCons t u) (mCons m n) := by
  intro σ H F A s Q Qd R h k
  refine l σ H F A s _ _ R h fun w s1 v F1 H1 Av A1 h1 o1 => ?_
  exact l' σ H1 F1 A1 s1 _ _ (o1.rel R) h1 fun ws s2 vs F2 H2 Aw A2 h2 o2 => k _ _ _ _ _ _ _ h2 (o1.cons o2)
theorem da_nil : DA Z X [] tNil mNil := ⟨pa_nil, .nil⟩
theorem da_cons {e : Expr} {es : List Expr} {t : TE} {u : TA} {m : TD} {n : TDs} (h : DE Z X e t m) (h' : DA Z X es u n) (hs : starEach (e :: es) X.env = (false, eval e X.env) :: starEach es X.env := by rfl) : DA Z X (e :: es) (tCons t u) (mCons m n) := ⟨pa_cons h.pe h'.pa hs, .cons h.lf h'.lf⟩

/-- what several values are at a state -/
def resL (s : DSt) : List W → Option (List D)
  | [] => some []
  | w :: ws => match res s w with
    | some d => match resL s ws with
      | some ds => some (d :: ds)
      | none => none
    | none => none
inductive OwV (K : PySem.W.Frag) (F H : Hp) : List V → List M → Prop
  | nil : OwV K F H [] []
  | cons {x : V} {m : M} {B : List Addr} {xs : List V} {ms : List M} : Ow K F H x m B → OwV K F H xs ms → OwV K F H (x :: xs) (m :: ms)
theorem WOws.res (o : OwS K F H σ s A) : ∀ {vs : List V} {ws : List W} {B : List Addr} {ds : List D}, WOws K F H σ vs ws B → resL s ws = some ds → ∃ ms, OwV K F H vs ms ∧ ms.map M.frz = ds
  | _, _, _, _, .nil, h => by cases h; exact ⟨[], .nil, rfl⟩
  | _, _, _, _, .cons (w := w) (ws := ws) x r, h => by
    unfold resL at h
    cases e1 : DL.res s w with
    | none => simp [e1] at h
    | some d =>
      cases e2 : resL s ws with
      | none => simp [e1, e2] at h
      | some ds =>
        simp [e1, e2] at h
        obtain ⟨m, C, ow, rfl⟩ := x.res o e1
        obtain ⟨ms, q, rfl⟩ := WOws.res o r e2
        exact ⟨m :: ms, .cons ow q, by simpa using h⟩

/-! ### calls of what is built in -/
def CallD (K : PySem.W.Frag) (r : List V → Hp → VK → Prop) (f : List D → M → Prop) : Prop := ∀ (F H : Hp) (xs : List V) (ms : List M) (z : M) (Q : VK), Sub F H → OwV K F H xs ms → f (ms.map M.frz) z →
  (∀ v F' H' Av, Frm F H [] F' H' Av → Sub F' H' → Ow K F' H' v z Av → Av.Nodup → Q v H') → r xs H Q
def mCB (f : List D → M → Prop) (m : TDs) : TD := fun s Q => m s fun ws s' => ∃ ds z, resL s' ws = some ds ∧ f ds z ∧ Q (.val z) s'
theorem Lift.cb {r : List V → Hp → VK → Prop} {f : List D → M → Prop} {t : TA} {m : TDs} (hd : CallD Z.K r f) (l : Lifts Z t m) : Lift Z (tCB r t) (mCB f m) := by
  intro σ H F A s Q Qd R h k
  refine l σ H F A s _ _ R h fun ws s1 vs F1 H1 Av A1 h1 o1 => ?_
  obtain ⟨ds, z, e, hf, q⟩ := h1
  obtain ⟨ms, ov, rfl⟩ := o1.wow.res o1.own e
  exact hd F1 H1 vs ms z Q o1.sub ov hf fun v F' H' Aw g sb ow nv => k _ _ _ _ _ _ _ q (Out.fin o1.fr o1.own o1.nd g sb ow nv)
theorem de_callB {x : Str} {p : Pos} {e : Expr} {es : List Expr} {t : TA} {m : TDs} {id : String} {r : List V → Hp → VK → Prop} {f : List D → M → Prop} (hc : CallR X (.builtin id) r) (hd : CallD Z.K r f) (hg : Gl X x) (hm : X.mg x = none) (hv : bootBuiltins x = some (.builtin id)) (ha : DA Z X (e :: es) t m) (hn : x ≠ "__name__" := by decide) (hdb : (x == ("__debug__" : Str)) = false := by decide) (he : starEach (e :: es) X.env = (false, eval e X.env) :: starEach es X.env := by rfl) (hpl : (backTo pos (starEach es X.env)).any (·.1) = false := by rfl) : DE Z X (.Call (.Name x p) (e :: es) [] pos) (tCB r t) (mCB f m) :=
  ⟨pe_callB hc hg hm hv ha.pa hn hdb he hpl, .cb hd ha.lf⟩
theorem de_callTy {x : Str} {p : Pos} {e : Expr} {es : List Expr} {t : TA} {m : TDs} {T : String} {r : List V → Hp → VK → Prop} {f : List D → M → Prop} (hc : CallR X (.type T) r) (hd : CallD Z.K r f) (hg : Gl X x) (hm : X.mg x = none) (hv : bootBuiltins x = some (.type T)) (ha : DA Z X (e :: es) t m) (hn : x ≠ "__name__" := by decide) (hdb : (x == ("__debug__" : Str)) = false := by decide) (he : starEach (e :: es) X.env = (false, eval e X.env) :: starEach es X.env := by rfl) (hpl : (backTo pos (starEach es X.env)).any (·.1) = false := by rfl) : DE Z X (.Call (.Name x p) (e :: es) [] pos) (tCB r t) (mCB f m) :=
  ⟨pe_callTy hc hg hm hv ha.pa hn hdb he hpl, .cb hd ha.lf⟩

/-! ### calls of defs -/
/-- a def's contract: what is handed in; what comes back and what the lent thing is then; what is raised -/
abbrev CT := List M → (M → List M → Prop) → (Value → Pay → List M → Prop) → Prop
def ioV : Bool → List V → List V
  | true, vs => vs.take 1
  | false, _ => []
def spD (K : PySem.W.Frag) (T : List (Addr × Str)) (io : Bool) (c : CT) : Sp := fun vs H Q E => ∃ (F : Hp) (A : List Addr) (ms : List M) (Rd : M → List M → Prop) (Xd : Value → Pay → List M → Prop), TbF T F ∧ Sub F H ∧ OwL K F H vs ms A ∧ A.Nodup ∧ c ms Rd Xd ∧
  (∀ r ms' v F' H' Av A', Rd r ms' → Frm F H A F' H' (Av ++ A') → Sub F' H' → Ow K F' H' v r Av → OwL K F' H' (ioV io vs) ms' A' → (Av ++ A').Nodup → Q v H') ∧
  (∀ cls pl ms' d F' H' A', Xd cls pl ms' → Frm F H A F' H' A' → Sub F' H' → XPay K F' H' d pl → OwL K F' H' (ioV io vs) ms' A' → A'.Nodup → E cls d H')

/-- several values to be kept -/
def tvs : List W → DSt → (List M → DSt → Prop) → Prop
  | [], s, Q => Q [] s
  | w :: ws, s, Q => tv w s fun m s1 => tvs ws s1 fun ms s2 => Q (m :: ms) s2
theorem tvs_ok : ∀ {vs : List V} {ws : List W} {B : List Addr} {F H : Hp} {A : List Addr} {s : DSt} {Qm : List M → DSt → Prop}, WOws K F H σ vs ws B → Sub F H → OwS K F H σ s A → (B ++ A).Nodup → tvs ws s Qm →
    ∃ ms s' F' B' A', Qm ms s' ∧ Frm F H (B ++ A) F' H (B' ++ A') ∧ Sub F' H ∧ OwL K F' H vs ms B' ∧ OwS K F' H σ s' A' ∧ (B' ++ A').Nodup ∧ (∀ a ∈ B', a ∈ B) ∧ (∀ a ∈ A', a ∈ A)
  | _, _, _, F, H, A, s, Qm, .nil, sb, ow, nd, h => ⟨[], s, F, [], A, h, Frm.refl, sb, .nil, ow, nd, fun _ q => q, fun _ q => q⟩
  | _, _, _, F, H, A, s, Qm, .cons (B1 := B1) (B2 := B2) x r, sb, ow, nd, h => by
    -- the first one, the others and the state held aside
    have nd1 : (B1 ++ A).Nodup := nd_mk (nd_l (nd_l nd)) (nd_r nd) fun a ha hb => nd_x nd a (List.mem_append_left _ ha) hb
    obtain ⟨m, s1, F1, C1, A1, h1, f1, sb1, o1, ow1, n1, hC, hA⟩ := tv_ok x sb ow nd1 h
    have r1 : WOws K F1 H σ _ _ B2 := r.keep f1 fun a ha hb => by
      rcases List.mem_append.mp hb with q | q
      · exact nd_x (nd_l nd) a q ha
      · exact nd_x nd a (List.mem_append_right _ ha) q
    have nd2 : (B2 ++ A1).Nodup := nd_mk (nd_r (nd_l nd)) (nd_r n1) fun a ha hb => nd_x nd a (List.mem_append_right _ ha) (hA a hb)
    obtain ⟨ms, s2, F2, C2, A2, h2, f2, sb2, o2, ow2, n2, hC2, hA2⟩ := tvs_ok r1 sb1 ow1 nd2 h1
    have hx : ∀ a ∈ C1, a ∉ B2 ++ A1 := fun a ha hb => by
      rcases List.mem_append.mp hb with q | q
      · exact nd_x (nd_l nd) a (hC a ha) q
      · exact nd_x n1 a ha q
    refine ⟨m :: ms, s2, F2, C1 ++ C2, A2, h2, ?_, sb2, .cons (o1.keep f2 hx) o2, ow2, ?_, ?_, fun a q => hA a (hA2 a q)⟩
    · have g1 : Frm F H ((B1 ++ B2) ++ A) F1 H (C1 ++ (B2 ++ A1)) := by
        refine Frm.exF f1.fsub (fun a o q => q) (fun a ha => .inl ?_) (fun a o q => ?_) f1.ft
        · rcases List.mem_append.mp ha with q | q
          · exact List.mem_append_left _ (List.mem_append_left _ (hC a q))
          · rcases List.mem_append.mp q with q | q
            · exact List.mem_append_left _ (List.mem_append_right _ q)
            · exact List.mem_append_right _ (hA a q)
        · rcases f1.fnew a o q with q | q | q
          · exact .inl q
          · refine .inr (.inl ?_)
            rcases List.mem_append.mp q with q | q
            · exact List.mem_append_left _ (List.mem_append_left _ q)
            · exact List.mem_append_right _ q
          · exact .inr (.inr q)
      simpa using Frm.trans (B := C1) g1 f2
    · rw [List.append_assoc]
      refine nd_mk (nd_l n1) n2 fun a ha hb => ?_
      rcases List.mem_append.mp hb with q | q
      · exact nd_x (nd_l nd) a (hC a ha) (hC2 a q)
      · exact nd_x n1 a ha (hA2 a q)
    · intro a ha
      rcases List.mem_append.mp ha with q | q
      · exact List.mem_append_left _ (hC a q)
      · exact List.mem_append_right _ (hC2 a q)

/-- f(..), nothing lent -/
def mCall (D : Value → Pay → DSt → Prop) (c : CT) (m : TDs) : TD := fun s Q => m s fun ws s1 => tvs ws s1 fun ms s2 => c ms (fun r _ => Q (.val r) s2) fun cls pl _ => D cls pl s2
theorem Lift.call {c : CT} {t : TA} {m : TDs} (l : Lifts Z t m) : Lift Z (tCallS (spD Z.K Z.T false c) (WE Z.W) t) (mCall Z.D c m) := by
  intro σ H F A s Q Qd R h k
  refine l σ H F A s _ _ R h fun ws s1 vs F1 H1 Av A1 h1 o1 => ?_
  obtain ⟨ms, s2, F2, B2, A2, h2, f2, sb2, ol, ow2, n2, hB, hA⟩ := tvs_ok o1.wow o1.sub o1.own o1.nd h1
  have f12 : Frm F H A F2 H1 (B2 ++ A2) := o1.fr.trans0 f2
  have fA : Frm F H A F2 H1 (A2 ++ B2) := f12.weak fun a ha => (List.mem_append.mp ha).elim (List.mem_append_right _) (List.mem_append_left _)
  have hx : ∀ a ∈ A2, a ∉ B2 := fun a ha hb => nd_x n2 a hb ha
  refine ⟨F2, B2, ms, _, _, R.ex.tb.frm f12, sb2, ol, nd_l n2, h2, fun r ms' v F' H' Aw A' q g sb ow ol' nd => ?_, fun cls pl ms' d F' H' A' q g sb xp ol' nd => ?_⟩
  · have e : A' = [] := by
      cases ol'; rfl
    subst e
    rw [List.append_nil] at g nd
    have f3 := Frm.trans (B := A2) fA g
    refine k _ _ _ _ _ Aw A2 q ⟨f3.weak fun a ha => (List.mem_append.mp ha).elim (List.mem_append_right _) (List.mem_append_left _), sb, .val ow, ow2.keep g hx, ?_⟩
    refine nd_mk nd (nd_r n2) fun a ha hb => ?_
    rcases g.new a ha with p | p
    · exact hx a hb p
    · obtain ⟨o, e, d⟩ := (ow2.out a hb).2
      exact fr_no e d.nt p
  · have e : A' = [] := by
      cases ol'; rfl
    subst e
    have f3 := Frm.trans (B := A2) fA g
    exact R.ex.im cls d pl σ s2 F' H' A2 (f3.weak fun a ha => List.mem_append_left _ ha) sb (ow2.keep g hx) (nd_r n2) xp q
theorem de_call {c : CT} {k : Nat} {f : Addr} {fd : FuncData} {ps : List Str} {x : Str} {p : Pos} {e : Expr} {es : List Expr} {t : TA} {m : TDs} (Fn : FnOk X.prog X.w X.K X.mg X.base (L2.CX X.prog X.w) k f fd ps (spD Z.K Z.T false c)) (hr : Room k X.A) (hg : Gl X x) (hm : X.mg x = some (.ref f)) (hk : PySem.W.keepIn X.K (.ref f) = true) (hb : Binds X.K fd ps []) (tk : Takes X Z.W) (ha : DA Z X (e :: es) t m) (hdb : (x == ("__debug__" : Str)) = false := by decide) (he : starEach (e :: es) X.env = (false, eval e X.env) :: starEach es X.env := by rfl) (hpl : (backTo pos (starEach es X.env)).any (·.1) = false := by rfl) : DE Z X (.Call (.Name x p) (e :: es) [] pos) (tCallS (spD Z.K Z.T false c) (WE Z.W) t) (mCall Z.D c m) :=
  ⟨pe_callS Fn hr hg hm hk hb (fun σ => passAt tk σ) ha.pa hdb he hpl, .call ha.lf⟩

/-- f(x, ..), x's own thing lent -/
def mCallIO (D : Value → Pay → DSt → Prop) (c : CT) (m : TDs) : TD := fun s Q => m s fun ws s1 => match ws with
  | .slot i :: rest => tvs rest s1 fun ms s2 => match s2[i]? with
    | some sl => match sl.m? with
      | some m0 => c (m0 :: ms) (fun r ms' => match ms' with
          | [m'] => Q (.val r) (s2.set i (sl.put m'))
          | _ => False) fun cls pl ms' => match ms' with
          | [m'] => D cls pl (s2.set i (sl.put m'))
          | _ => False
      | none => False
    | none => False
  | _ => False
theorem Lift.callIO {c : CT} {t : TA} {m : TDs} (l : Lifts Z t m) : Lift Z (tCallS (spD Z.K Z.T true c) (WE Z.W) t) (mCallIO Z.D c m) := by
  intro σ H F A s Q Qd R h k
  refine l σ H F A s _ _ R h fun ws s1 vs F1 H1 Av A1 h1 o1 => ?_
  cases ws with
  | nil => exact h1.elim
  | cons w rest =>
    cases w with
    | val m => exact h1.elim
    | slot i =>
      have wow := o1.wow
      cases wow with
      | cons x r =>
        cases x with
        | slot ev =>
          rename_i v vs' B2
          have nd1 : (B2 ++ A1).Nodup := by simpa using o1.nd
          obtain ⟨ms, s2, F2, C2, A2, h2, f2, sb2, ol, ow2, n2, hB, hA⟩ := tvs_ok r o1.sub o1.own nd1 h1
          have f12 : Frm F H A F2 H1 (C2 ++ A2) := Frm.trans0 (A1 := B2 ++ A1) (by simpa using o1.fr) f2
          simp only at h2
          cases es : s2[i]? with
          | none => simp [es] at h2
          | some sl =>
            cases em : sl.m? with
            | none => simp [es, em] at h2
            | some m0 =>
              simp only [es, em] at h2
              obtain ⟨x, B0, C, E, ex, ow0, hA2, kk⟩ := ow2.split es em
              rw [ev] at ex
              cases ex
              subst hA2
              have ndA := nd_r n2
              -- the lent thing and the arguments go in; C ++ E stay
              have fA : Frm F H A F2 H1 ((C ++ E) ++ (B0 ++ C2)) := f12.weak fun a ha => by
                simp at ha ⊢
                rcases ha with q | q | q | q <;> simp [q]
              have hx : ∀ a ∈ C ++ E, a ∉ B0 ++ C2 := fun a ha hb => by
                rcases List.mem_append.mp hb with q | q
                · rcases List.mem_append.mp ha with p | p
                  · exact nd_x (nd_l ndA) a p q
                  · exact nd_x ndA a (List.mem_append_right _ q) p
                · refine nd_x n2 a q ?_
                  rw [mem3]
                  rcases List.mem_append.mp ha with p | p
                  · exact .inl p
                  · exact .inr (.inr p)
              have ndB : (B0 ++ C2).Nodup := nd_mk (nd_r (nd_l ndA)) (nd_l n2) fun a ha hb => nd_x n2 a hb (by rw [mem3]; exact .inr (.inl ha))
              have ndCE : (C ++ E).Nodup := nd_mk (nd_l (nd_l ndA)) (nd_r ndA) fun a ha hb => nd_x ndA a (List.mem_append_left _ ha) hb
              have out2 : ∀ a ∈ C ++ E, ∃ o, H1 a = some o ∧ Dt o := fun a ha => (ow2.out a (by
                rw [mem3]
                rcases List.mem_append.mp ha with p | p
                · exact .inl p
                · exact .inr (.inr p))).2
              refine ⟨F2, B0 ++ C2, m0 :: ms, _, _, R.ex.tb.frm fA, sb2, .cons ow0 ol, ndB, h2, fun r ms' u F' H' Aw A' q g sb ow ol' nd => ?_, fun cls pl ms' d F' H' A' q g sb xp ol' nd => ?_⟩
              · cases ms' with
                | nil => exact q.elim
                | cons m' tl =>
                  cases tl with
                  | cons _ _ => exact q.elim
                  | nil =>
                    cases ol' with
                    | cons o' e' =>
                      cases e'
                      rename_i A3
                      have gn : ∀ a ∈ Aw ++ A3, a ∉ C ++ E := fun a ha hb => by
                        rcases g.new a (by simpa using ha) with p | p
                        · exact hx a hb p
                        · obtain ⟨o, e, d⟩ := out2 a hb
                          exact fr_no e d.nt p
                      have f3 := Frm.trans (B := C ++ E) fA g
                      have k3 := kk F' H' (B0 ++ C2) (Aw ++ (A3 ++ [])) m' A3 g hx o'
                      refine k _ _ _ _ _ Aw (C ++ A3 ++ E) q ⟨f3.weak fun a ha => ?_, sb, .val ow, k3, ?_⟩
                      · simp at ha ⊢
                        rcases ha with p | p | p | p <;> simp [p]
                      · have nd' : (Aw ++ A3).Nodup := by simpa using nd
                        refine nd_mk (nd_l nd') (nd_mk (nd_mk (nd_l ndCE) (nd_r nd') fun a ha hb => gn a (List.mem_append_right _ hb) (List.mem_append_left _ ha)) (nd_r ndCE) fun a ha hb => ?_) fun a ha hb => ?_
                        · rcases List.mem_append.mp ha with p | p
                          · exact nd_x ndCE a p hb
                          · exact gn a (List.mem_append_right _ p) (List.mem_append_right _ hb)
                        · rw [mem3] at hb
                          rcases hb with p | p | p
                          · exact gn a (List.mem_append_left _ ha) (List.mem_append_left _ p)
                          · exact nd_x nd' a ha p
                          · exact gn a (List.mem_append_left _ ha) (List.mem_append_right _ p)
              · cases ms' with
                | nil => exact q.elim
                | cons m' tl =>
                  cases tl with
                  | cons _ _ => exact q.elim
                  | nil =>
                    cases ol' with
                    | cons o' e' =>
                      cases e'
                      rename_i A3
                      have gn : ∀ a ∈ A3, a ∉ C ++ E := fun a ha hb => by
                        rcases g.new a (by simpa using ha) with p | p
                        · exact hx a hb p
                        · obtain ⟨o, e, d⟩ := out2 a hb
                          exact fr_no e d.nt p
                      have f3 := Frm.trans (B := C ++ E) fA g
                      have k3 := kk F' H' (B0 ++ C2) (A3 ++ []) m' A3 g hx o'
                      refine R.ex.im cls d pl σ _ F' H' (C ++ A3 ++ E) (f3.weak fun a ha => ?_) sb k3 ?_ xp q
                      · simp at ha ⊢
                        rcases ha with p | p | p <;> simp [p]
                      · have nd' : A3.Nodup := by simpa using nd
                        refine nd_mk (nd_mk (nd_l ndCE) nd' fun a ha hb => gn a hb (List.mem_append_left _ ha)) (nd_r ndCE) fun a ha hb => ?_
                        rcases List.mem_append.mp ha with p | p
                        · exact nd_x ndCE a p hb
                        · exact gn a p (List.mem_append_right _ hb)
theorem de_callIO {c : CT} {k : Nat} {f : Addr} {fd : FuncData} {ps : List Str} {x : Str} {p : Pos} {e : Expr} {es : List Expr} {t : TA} {m : TDs} (Fn : FnOk X.prog X.w X.K X.mg X.base (L2.CX X.prog X.w) k f fd ps (spD Z.K Z.T true c)) (hr : Room k X.A) (hg : Gl X x) (hm : X.mg x = some (.ref f)) (hk : PySem.W.keepIn X.K (.ref f) = true) (hb : Binds X.K fd ps []) (tk : Takes X Z.W) (ha : DA Z X (e :: es) t m) (hdb : (x == ("__debug__" : Str)) = false := by decide) (he : starEach (e :: es) X.env = (false, eval e X.env) :: starEach es X.env := by rfl) (hpl : (backTo pos (starEach es X.env)).any (·.1) = false := by rfl) : DE Z X (.Call (.Name x p) (e :: es) [] pos) (tCallS (spD Z.K Z.T true c) (WE Z.W) t) (mCallIO Z.D c m) :=
  ⟨pe_callS Fn hr hg hm hk hb (fun σ => passAt tk σ) ha.pa hdb he hpl, .callIO ha.lf⟩
end
end DL

namespace DL
open PySem PySem.Spec L2

/-- what is lent by the caller -/
def pinsD : DSt → List (V × M)
  | [] => []
  | .p x m :: s => (x, m) :: pinsD s
  | _ :: s => pinsD s
def fin (io : Bool) (x0 : V) (s : DSt) (P : List M → Prop) : Prop := match io with
  | true => match pinsD s with
    | [(x, m)] => x = x0 ∧ P [m]
    | _ => False
  | false => P []
def startD (io : Bool) (x0 : V) (ms : List M) (n : Nat) : DSt := (match io, ms with
  | true, m :: r => .p x0 m :: r.map .v
  | _, ms => ms.map .v) ++ List.replicate (n - ms.length) .un
section
variable {P : Program} {w : World} {K : PySem.W.Frag} {mg : Str → Option Value} {base : Heap}
theorem OwS.pins {F H : Hp} : ∀ {σ : L2.St} {s : DSt} {A : List Addr}, OwS K F H σ s A → ∃ A', OwL K F H ((pinsD s).map (·.1)) ((pinsD s).map (·.2)) A' ∧ (∀ a ∈ A', a ∈ A) ∧ (A.Nodup → A'.Nodup)
  | _, _, _, .nil => ⟨[], .nil, fun _ h => h, fun h => h⟩
  | _, _, _, .un r => r.pins
  | _, _, _, .v (A1 := A1) w r => by
    obtain ⟨A', o, h1, h2⟩ := r.pins
    exact ⟨A', o, fun a h => List.mem_append_right _ (h1 a h), fun h => h2 (nd_r h)⟩
  | _, _, _, .p (A1 := A1) w r => by
    obtain ⟨A', o, h1, h2⟩ := r.pins
    refine ⟨A1 ++ A', .cons w o, fun a h => (List.mem_append.mp h).elim (List.mem_append_left _) fun q => List.mem_append_right _ (h1 a q), fun h => nd_mk (nd_l h) (h2 (nd_r h)) fun a ha hb => nd_x h a ha (h1 a hb)⟩
theorem fin_ok {F H : Hp} {io : Bool} {x0 : V} {vs : List V} {σ : L2.St} {s : DSt} {A : List Addr} {Pm : List M → Prop} (ow : OwS K F H σ s A) (h : fin io x0 s Pm) (hv : io = true → vs.take 1 = [x0]) : ∃ ms A', Pm ms ∧ OwL K F H (ioV io vs) ms A' ∧ (∀ a ∈ A', a ∈ A) ∧ (A.Nodup → A'.Nodup) := by
  cases io with
  | false => exact ⟨[], [], h, .nil, (fun _ h => nomatch h), fun _ => List.nodup_nil⟩
  | true =>
    obtain ⟨A', o, h1, h2⟩ := ow.pins
    unfold fin at h
    simp only at h
    cases e : pinsD s with
    | nil => simp [e] at h
    | cons q r =>
      cases r with
      | cons _ _ => simp [e] at h
      | nil =>
        obtain ⟨x, m⟩ := q
        simp only [e] at h
        obtain ⟨rfl, hp⟩ := h
        rw [e] at o
        refine ⟨[m], A', hp, ?_, h1, h2⟩
        show OwL K F H (vs.take 1) [m] A'
        rw [hv rfl]
        exact o
theorem ows_un {F H : Hp} : ∀ n : Nat, OwS K F H (List.replicate n none) (List.replicate n .un) []
  | 0 => .nil
  | n + 1 => .un (ows_un n)
theorem ows_app {F H : Hp} : ∀ {vs : List V} {ms : List M} {A : List Addr} {σ : L2.St} {s : DSt}, OwL K F H vs ms A → OwS K F H σ s [] → OwS K F H (vs.map some ++ σ) (ms.map .v ++ s) A
  | _, _, _, _, _, .nil, h => h
  | _, _, _, _, _, .cons o r, h => .v o (ows_app r h)
theorem OwL.length {F H : Hp} : ∀ {vs : List V} {ms : List M} {A : List Addr}, OwL K F H vs ms A → vs.length = ms.length
  | _, _, _, .nil => rfl
  | _, _, _, .cons _ r => congrArg (· + 1) r.length
theorem ows_start {F H : Hp} {vs : List V} {ms : List M} {A : List Addr} {N : List Str} (io : Bool) (x0 : V) (hv : io = true → vs.take 1 = [x0]) (o : OwL K F H vs ms A) : OwS K F H (L2.start N vs) (startD io x0 ms N.length) A := by
  unfold L2.start startD
  have hl := o.length
  have u : OwS K F H (List.replicate (N.length - vs.length) none) (List.replicate (N.length - ms.length) Slot.un) [] := by rw [hl]; exact ows_un _
  cases io with
  | false => exact ows_app o u
  | true =>
    cases o with
    | nil => exact ows_app .nil u
    | cons q r =>
      have := hv rfl
      simp at this
      subst this
      exact .p q (ows_app r u)

theorem Fun.okG {x qual : Str} {st : Stmt} {f : Addr} {fd : FuncData} {N ps : List Str} {k : Nat} {sp : Sp} (F : Fun K x qual st f fd) (S : FnScope N ps (defScope st)) (len : ∀ vs H Q E, sp vs H Q E → vs.length = ps.length)
    (hbody : ∀ (cdv : Value), fd.code = cdv → ∀ (A : Around) (outer : List Env) (s : Shared) (H : Hp) (vs : List V) (Q : VK) (E : XK), Room k (A.deeper (PyProof.Rows.envOfC qual (defScope st) s.heap.objs.size f cdv)) → sp vs H Q E →
      ∃ t, PSs (cxOf (L2.CX P w) P w K mg base N qual (defScope st) f cdv A outer s H E) (defBody st) t ∧ t { nx := fun _ H' => Q .non H', rt := Q } (L2.start N vs) H) : FnOk P w K mg base (L2.CX P w) (k + 1) f fd ps sp := by
  obtain ⟨oc, od, kV, doc, pm, an, cdv, ct, osl, rfl, lk, hcd⟩ := F.ex
  exact fn_of lk hcd S len fun A outer s H vs Q E hr hsp => hbody cdv rfl A outer s H vs Q E hr hsp
/-- THE RULE: a def keeps its contract -/
theorem fn_ok {x qual : Str} {st : Stmt} {f : Addr} {fd : FuncData} {N ps : List Str} {k : Nat} {io : Bool} {c : CT} {T : List (Addr × Str)} (Fn : Fun K x qual st f fd) (S : FnScope N ps (defScope st)) (hlen : ∀ ms R X, c ms R X → ms.length = ps.length) (hio : io = true → 0 < ps.length)
    (hbody : ∀ (cdv : Value), fd.code = cdv → ∀ (A : Around) (outer : List Env) (s : Shared) (H : Hp) (E : XK) (x0 : V) (Xd : Value → Pay → List M → Prop), Room k (A.deeper (PyProof.Rows.envOfC qual (defScope st) s.heap.objs.size f cdv)) →
      ∃ t m, DSs ⟨K, fun cls d _ H' => E cls d H', fun cls pl s' => fin io x0 s' (Xd cls pl), T⟩ (cxOf (L2.CX P w) P w K mg base N qual (defScope st) f cdv A outer s H E) (defBody st) t m ∧
        ∀ ms Rd, c ms Rd Xd → m ⟨fun s' => fin io x0 s' (Rd (.fz .non)), fun r s' => fin io x0 s' (Rd r), fun _ => False, fun _ => False⟩ (startD io x0 ms N.length)) :
    FnOk P w K mg base (L2.CX P w) (k + 1) f fd ps (spD K T io c) := by
  have len : ∀ vs H Q E, spD K T io c vs H Q E → vs.length = ps.length := fun vs H Q E h => by
    obtain ⟨F, A, ms, Rd, Xd, _, sb, ol, nd, hc, _⟩ := h
    rw [ol.length]; exact hlen ms Rd Xd hc
  refine Fun.okG Fn S len (fun cdv hcd A outer s H vs Q E hr h => ?_)
  have hl := len vs H Q E h
  obtain ⟨F, A', ms, Rd, Xd, tb, sb, ol, nd, hc, kR, kX⟩ := h
  obtain ⟨x0, hv⟩ : ∃ x0, io = true → vs.take 1 = [x0] := by
    cases vs with
    | nil => exact ⟨.non, fun q => by have := hio q; simp at hl; omega⟩
    | cons x r => exact ⟨x, fun _ => by simp⟩
  obtain ⟨t, m, d, hm⟩ := hbody cdv hcd A outer s H E x0 Xd hr
  refine ⟨t, d.ps, ?_⟩
  refine d.lf (L2.start N vs) H F A' (startD io x0 ms N.length) _ _ ⟨sb, ows_start io x0 hv ol, nd, tb, ?_⟩ (hm ms Rd hc) ⟨?_, ?_, ?_, ?_⟩
  · intro cls dd pl σ' s' F' H' A2 g sb' ow nd' xp q
    obtain ⟨ms', A3, hp, o3, h1, h2⟩ := fin_ok ow q hv
    exact kX cls pl ms' dd F' H' A3 hp (g.weak h1) sb' xp o3 (h2 nd')
  · intro σ' s' F' H' A2 g sb' ow nd' q
    obtain ⟨ms', A3, hp, o3, h1, h2⟩ := fin_ok ow q hv
    exact kR (.fz .non) ms' .non F' H' [] A3 hp (g.weak h1) sb' (.fz .non) o3 (h2 nd')
  · intro σ' s' F' H' A2 g sb' ow nd' q
    exact q.elim
  · intro σ' s' F' H' A2 g sb' ow nd' q
    exact q.elim
  · intro v r σ' s' F' H' Av A2 g sb' wv ow nd' q
    obtain ⟨ms', A3, hp, o3, h1, h2⟩ := fin_ok ow q hv
    refine kR r ms' v F' H' Av A3 hp (g.weak fun a ha => (List.mem_append.mp ha).elim (List.mem_append_left _) fun q => List.mem_append_right _ (h1 a q)) sb' wv o3 ?_
    exact nd_mk (nd_l nd') (h2 (nd_r nd')) fun a ha hb => nd_x nd' a ha (h1 a hb)
/-- what a def's body may let out -/
theorem takesD {qual : Str} {scope : Scope} {N : List Str} {f : Addr} {cdv : Value} {A : Around} {outer : List Env} {s : Shared} {H : Hp} {E : XK} {D : Value → Pay → DSt → Prop} {T : List (Addr × Str)} :
    Takes (cxOf (L2.CX P w) P w K mg base N qual scope f cdv A outer s H E) (ZX.mk K (fun cls d _ H' => E cls d H') D T).W := takes_of rfl rfl rfl rfl
end
end DL

namespace DL
open PySem PySem.Spec L2

section
variable {Z : ZX} {X : Cx} {K : PySem.W.Frag} {F H F1 H1 F2 H2 F3 H3 F' H' : Hp} {A A1 A2 A' Av B : List Addr} {σ : L2.St} {s s1 s2 : DSt} {v : V} {w : W} {pos : Pos}

/-! ### displays -/
theorem OwL.freeze : ∀ {F : Hp} {vs : List V} {ms : List M} {B : List Addr}, OwL K F H vs ms B → Sub F H → B.Nodup → ∃ F', Frm F H B F' H [] ∧ Sub F' H ∧ Fzs K F' vs (ms.map M.frz)
  | F, _, _, _, .nil, sb, _ => ⟨F, Frm.refl, sb, .nil⟩
  | F, _, _, _, .cons (A1 := A1) (A2 := A2) o r, sb, nd => by
    obtain ⟨F1, f1, sb1, z1⟩ := o.freeze sb
    have r1 : OwL K F1 H _ _ A2 := r.keep f1 fun a ha hb => nd_x nd a hb ha
    obtain ⟨F2, f2, sb2, z2⟩ := OwL.freeze r1 sb1 (nd_r nd)
    refine ⟨F2, Frm.exF (fun a o h => f2.fsub a o (f1.fsub a o h)) (fun a o h => h) (fun a h => nomatch h) (fun a o h => ?_) (fun a ps h => f1.ft a ps (f2.ft a ps h)), sb2, .cons (z1.mono (Sub.of f2.fsub)) z2⟩
    rcases f2.fnew a o h with q | q | q
    · exact (f1.fnew a o q).imp id fun q => q.imp (List.mem_append_left _) id
    · exact .inr (.inl (List.mem_append_right _ q))
    · exact .inr (.inr q)
def mTup (m : TDs) : TD := fun s Q => m s fun ws s1 => tvs ws s1 fun ms s2 => ms.length ≤ sizeLine ∧ Q (.val (.fz (.tup (ms.map M.frz)))) s2
def mLst (m : TDs) : TD := fun s Q => m s fun ws s1 => tvs ws s1 fun ms s2 => ms.length ≤ sizeLine ∧ Q (.val (.ml (ms.map M.frz))) s2
/-- several values kept and frozen -/
structure OutF (K : PySem.W.Frag) (F H : Hp) (A : List Addr) (σ : L2.St) (ds : List D) (s' : DSt) (vs : List V) (F' H' : Hp) (A' : List Addr) : Prop where
  fr : Frm F H A F' H' ([] ++ A')
  sub : Sub F' H'
  fz : Fzs K F' vs ds
  own : OwS K F' H' σ s' A'
  nd : ([] ++ A' : List Addr).Nodup
theorem tvs_fz {ws : List W} {vs : List V} {Qm : List M → DSt → Prop} (o : Outs K F H A σ ws s1 vs F1 H1 Av A1) (h : tvs ws s1 Qm) : ∃ ms s2 F2 A2, Qm ms s2 ∧ OutF K F H A σ (ms.map M.frz) s2 vs F2 H1 A2 := by
  obtain ⟨ms, s2, F2, B2, A2, h2, f2, sb2, ol, ow2, n2, hB, hA⟩ := tvs_ok o.wow o.sub o.own o.nd h
  obtain ⟨F3, f3, sb3, z⟩ := OwL.freeze ol sb2 (nd_l n2)
  have f12 : Frm F H A F2 H1 (A2 ++ B2) := (o.fr.trans0 f2).weak fun a ha => (List.mem_append.mp ha).elim (List.mem_append_right _) (List.mem_append_left _)
  refine ⟨ms, s2, F3, A2, h2, (Frm.trans (B := A2) f12 f3).weak fun a ha => by simpa using ha, sb3, z, ow2.keep f3 fun a ha hb => nd_x n2 a hb ha, by simpa using nd_r n2⟩
theorem Lift.tup {t : TA} {m : TDs} (l : Lifts Z t m) : Lift Z (tTup t) (mTup m) := by
  intro σ H F A s Q Qd R h k
  refine l σ H F A s _ _ R h fun ws s1 vs F1 H1 Av A1 h1 o1 => ?_
  obtain ⟨ms, s2, F2, A2, ⟨hl, q⟩, o⟩ := tvs_fz o1 h1
  have hv := o.fz.length
  rw [List.length_map] at hv
  refine ⟨by omega, fun p hp => ?_⟩
  obtain ⟨g, sb, ow⟩ := new_tup o.sub hp o.fz
  exact k _ _ _ _ _ _ _ q (Out.fin o.fr o.own o.nd g sb ow List.nodup_nil)
theorem Lift.lst {t : TA} {m : TDs} (l : Lifts Z t m) : Lift Z (tLst t) (mLst m) := by
  intro σ H F A s Q Qd R h k
  refine l σ H F A s _ _ R h fun ws s1 vs F1 H1 Av A1 h1 o1 => ?_
  obtain ⟨ms, s2, F2, A2, ⟨hl, q⟩, o⟩ := tvs_fz o1 h1
  have hv := o.fz.length
  rw [List.length_map] at hv
  refine ⟨by omega, fun p hp => ?_⟩
  obtain ⟨g, sb, ow⟩ := new_lst o.sub hp o.fz
  exact k _ _ _ _ _ _ _ q (Out.fin o.fr o.own o.nd g sb ow (by simp))
theorem de_tup {es : List Expr} {x1} {t : TA} {m : TDs} (h : DA Z X es t m) : DE Z X (.Tuple es x1 pos) (tTup t) (mTup m) := ⟨pe_tup h.pa, .tup h.lf⟩
theorem de_lst {es : List Expr} {t : TA} {m : TDs} (h : DA Z X es t m) : DE Z X (.List es pos) (tLst t) (mLst m) := ⟨pe_lst h.pa, .lst h.lf⟩

/-! ### subscripts -/
def rIxD : R2 := fun x y H Q => ∃ a v, x = .ref a ∧ DGet H a y (some v) ∧ Q v H
theorem ix_dict (hu : X.A.units + 1 < cLine) : IxR X rIxD := by
  intro value slice pins s σ H x y v u Q I rx ry h hs
  obtain ⟨a, z, rfl, g, q⟩ := h
  obtain rfl : v = Value.ref a := rx
  exact PyProof.Rows.tail_any (dict_typeIs I g) PySem.F.slot_dict_getitem.lookup (d_getItem hu I g ry fun w' s' I' r' => ⟨z, H, I', r', q⟩) hs
def rIxA (K : PySem.W.Frag) : R2 := fun x y H Q => (rIxL K x y H Q ∨ rIxT K x y H Q ∨ rIxS x y H Q) ∨ rIxD x y H Q
theorem ix_all (hK : X.K = K) (hu : X.A.units + 1 < cLine) : IxR X (rIxA K) := by
  subst hK
  exact IxR.or ix_seq (ix_dict hu)
def valD {κ : Type} [DecidableEq κ] : List (κ × D) → κ → Option D
  | [], _ => none
  | (k, d) :: r, j => if k = j then some d else valD r j
def D.key : D → Option Key
  | .int i => some (.inl i)
  | .str x => some (.inr x)
  | _ => none
def D.keys : List D → Option (List Key)
  | [] => some []
  | d :: ds => match d.key with
    | some k => match D.keys ds with
      | some ks => some (k :: ks)
      | none => none
    | none => none
theorem Fz.key {F : Hp} {v : V} {d : D} {k : Key} (z : Fz K F v d) (h : d.key = some k) : v = kV k := by
  cases z <;> cases h <;> rfl
theorem Fzs.keys {F : Hp} : ∀ {vs : List V} {ds : List D} {ks : List Key}, Fzs K F vs ds → D.keys ds = some ks → vs = ks.map kV
  | _, _, _, .nil, h => by cases h; rfl
  | _, _, _, .cons (d := d) (ds := ds) z r, h => by
    unfold D.keys at h
    cases e1 : d.key with
    | none => simp [e1] at h
    | some k =>
      cases e2 : D.keys ds with
      | none => simp [e1, e2] at h
      | some ks =>
        simp [e1, e2] at h
        subst h
        rw [z.key e1, Fzs.keys r e2]
        rfl
def OptFz (K : PySem.W.Frag) (F : Hp) : Option V → Option D → Prop
  | some v, some d => Fz K F v d
  | none, none => True
  | _, _ => False
theorem Fzk.val {F : Hp} : ∀ {kvs : List (Key × V)} {ds : List (Key × D)} (k : Key), Fzk K F kvs ds → OptFz K F (valV kvs k) (valD ds k)
  | _, _, k, .nil => by simp [valV, valD, OptFz]
  | _, _, k, .cons (k := j) (v := v) (d := d) z r => by
    by_cases e : j = k
    · rw [valV_pos (p := (j, v)) e, valD, if_pos e]; exact z
    · rw [valV_neg (p := (j, v)) e, valD, if_neg e]; exact Fzk.val k r
theorem Fzt.val {F : Hp} : ∀ {kvs : List (List Key × V)} {ds : List (List Key × D)} (k : List Key), Fzt K F kvs ds → OptFz K F (valV kvs k) (valD ds k)
  | _, _, k, .nil => by simp [valV, valD, OptFz]
  | _, _, k, .cons (k := j) (v := v) (d := d) z r => by
    by_cases e : j = k
    · rw [valV_pos (p := (j, v)) e, valD, if_pos e]; exact z
    · rw [valV_neg (p := (j, v)) e, valD, if_neg e]; exact Fzt.val k r
theorem Ow.dicV {x : V} {m : M} {B : List Addr} {ds : List (Key × D)} (sb : Sub F H) (w : Ow K F H x m B) (e : m.frz = .dic ds) : ∃ a kvs, x = .ref a ∧ Rd H a (.dK kvs) ∧ Fzk K F kvs ds := by
  cases w with
  | fz z =>
    cases e
    cases z with
    | dic h r => exact ⟨_, _, rfl, sb.rd h, r⟩
  | ml n h r => cases e
  | md n h r => cases e; exact ⟨_, _, rfl, .inl h, r⟩
  | mt n h r => cases e
theorem Ow.ditV {x : V} {m : M} {B : List Addr} {ds : List (List Key × D)} (sb : Sub F H) (w : Ow K F H x m B) (e : m.frz = .dit ds) : ∃ a kvs, x = .ref a ∧ Rd H a (.dT kvs) ∧ Fzt K F kvs ds := by
  cases w with
  | fz z =>
    cases e
    cases z with
    | dit h r => exact ⟨_, _, rfl, sb.rd h, r⟩
  | ml n h r => cases e
  | md n h r => cases e
  | mt n h r => cases e; exact ⟨_, _, rfl, .inl h, r⟩
/-- what a dict holds at a key, told in data -/
def D.look : D → D → Option D → Prop
  | .dic kvs, k, o => ∃ j, k.key = some j ∧ o = valD kvs j
  | .dit kvs, .tup ks, o => ∃ j, D.keys ks = some j ∧ o = valD kvs j
  | _, _, _ => False
theorem dget_ok {x y : V} {m1 m2 : M} {B1 B2 : List Addr} {d1 d2 : D} {o : Option D} (sb : Sub F H) (w1 : Ow K F H x m1 B1) (w2 : Ow K F H y m2 B2) (e1 : m1.frz = d1) (e2 : m2.frz = d2) (h : D.look d1 d2 o) : ∃ a ov, x = .ref a ∧ DGet H a y ov ∧ OptFz K F ov o := by
  cases d1 with
  | dic kvs =>
    obtain ⟨j, ej, rfl⟩ := h
    obtain ⟨a, ws, rfl, hr, z⟩ := w1.dicV sb e1
    have hy : y = kV j := by
      have z2 := (w2.view sb)
      rw [e2] at z2
      exact z2.key ej
    exact ⟨a, valV ws j, rfl, .inl ⟨ws, j, hr, hy, rfl⟩, z.val j⟩
  | dit kvs =>
    cases d2 with
    | tup ks =>
      obtain ⟨j, ej, rfl⟩ := h
      obtain ⟨a, ws, rfl, hr, z⟩ := w1.ditV sb e1
      obtain ⟨b, xs, rfl, ht, zt, _⟩ := w2.tupV sb e2
      have hx := zt.keys ej
      subst hx
      exact ⟨a, valV ws j, rfl, .inr ⟨ws, j, b, hr, rfl, ht, rfl⟩, z.val j⟩
    | _ => exact h.elim
  | _ => cases d2 <;> exact h.elim
theorem Ow.wtuV {x : V} {m : M} {B : List Addr} {ds : List D} (w : Ow K F H x m B) (e : m.frz = .wtu ds) : ∃ a xs, x = .ref a ∧ WrT K a xs ∧ Fzs K F xs ds := by
  cases w with
  | fz z =>
    cases e
    cases id z with
    | wtu h r => exact ⟨_, _, rfl, h, r⟩
  | ml n h r => cases e
  | md n h r => cases e
  | mt n h r => cases e
theorem Ow.scrV {x : V} {m : M} {B : List Addr} {ns : List Int} (sb : Sub F H) (w : Ow K F H x m B) (e : m.frz = .scr ns) : ∃ a, x = .ref a ∧ SqL K H a (ns.map V.int) := by
  cases w with
  | fz z =>
    cases e
    cases id z with
    | scr h => exact ⟨_, rfl, sb.sqL h⟩
  | ml n h r => cases e
  | md n h r => cases e
  | mt n h r => cases e
/-- x[i] -/
def dIdx : D → D → M → Prop
  | .lst ds, .int i, z => ∃ d, atI ds i = some d ∧ z = .fz d
  | .tup ds, .int i, z => ∃ d, atI ds i = some d ∧ z = .fz d
  | .wtu ds, .int i, z => ∃ d, atI ds i = some d ∧ z = .fz d
  | .scr ns, .int i, z => ∃ n, atI ns i = some n ∧ z = .fz (.int n)
  | .str x, .int i, z => x.length ≤ sizeLine ∧ ∃ c, atI x.cps.toList i = some c ∧ z = .fz (.str ⟨#[c]⟩)
  | .dic kvs, k, z => ∃ d, D.look (.dic kvs) k (some d) ∧ z = .fz d
  | .dit kvs, k, z => ∃ d, D.look (.dit kvs) k (some d) ∧ z = .fz d
  | _, _, _ => False
theorem atI_fz {vs : List V} {ds : List D} {i : Int} {d : D} (z : Fzs K F vs ds) (h : atI ds i = some d) : ∃ v, atI vs i = some v ∧ Fz K F v d := by
  unfold atI at h ⊢
  rw [z.length]
  cases e : ixN ds.length i with
  | none => simp [e] at h
  | some j =>
    simp [e] at h ⊢
    exact z.get h
theorem od_idx : OpD K (rIxA K) dIdx := by
  intro F H x y m1 m2 B1 B2 z Q sb w1 w2 hz k
  generalize e1 : m1.frz = d1 at hz
  generalize e2 : m2.frz = d2 at hz
  have seqc : ∀ {d : D} {v : V}, Fz K F v d → z = .fz d → Q v H := fun {d v} zv e => by
    subst e; exact k _ F H [] Frm.refl sb (.fz zv) List.nodup_nil
  cases d1 with
  | lst ds =>
    cases d2 with
    | int i =>
      obtain ⟨d, hd, rfl⟩ := hz
      obtain ⟨a, xs, rfl, hx, zz⟩ := w1.lstV sb e1
      obtain ⟨v, hv, zv⟩ := atI_fz zz hd
      exact .inl (.inl ⟨a, xs, i, v, rfl, w2.intV e2, SqL.of hx, hv, seqc zv rfl⟩)
    | _ => exact hz.elim
  | tup ds =>
    cases d2 with
    | int i =>
      obtain ⟨d, hd, rfl⟩ := hz
      obtain ⟨a, xs, rfl, hx, zz, _⟩ := w1.tupV sb e1
      obtain ⟨v, hv, zv⟩ := atI_fz zz hd
      exact .inl (.inr (.inl ⟨a, xs, i, v, rfl, w2.intV e2, SqT.of hx, hv, seqc zv rfl⟩))
    | _ => exact hz.elim
  | wtu ds =>
    cases d2 with
    | int i =>
      obtain ⟨d, hd, rfl⟩ := hz
      obtain ⟨a, xs, rfl, hx, zz⟩ := w1.wtuV e1
      obtain ⟨v, hv, zv⟩ := atI_fz zz hd
      exact .inl (.inr (.inl ⟨a, xs, i, v, rfl, w2.intV e2, .inr hx, hv, seqc zv rfl⟩))
    | _ => exact hz.elim
  | scr ns =>
    cases d2 with
    | int i =>
      obtain ⟨n, hn, rfl⟩ := hz
      obtain ⟨a, rfl, hx⟩ := w1.scrV sb e1
      refine .inl (.inl ⟨a, _, i, .int n, rfl, w2.intV e2, hx, ?_, seqc (.int n) rfl⟩)
      unfold atI at hn ⊢
      rw [List.length_map]
      cases e : ixN ns.length i with
      | none => simp [e] at hn
      | some j =>
        simp [e] at hn ⊢
        exact hn
    | _ => exact hz.elim
  | str x =>
    cases d2 with
    | int i =>
      obtain ⟨hl, c, hc, rfl⟩ := hz
      exact .inl (.inr (.inr ⟨x, i, c, w1.strV e1, w2.intV e2, hl, hc, seqc (.str _) rfl⟩))
    | _ => exact hz.elim
  | dic kvs =>
    obtain ⟨d, hd, rfl⟩ := hz
    obtain ⟨a, ov, rfl, g, hm⟩ := dget_ok sb w1 w2 e1 e2 hd
    cases ov with
    | none => exact hm.elim
    | some v => exact .inr ⟨a, v, rfl, g, seqc hm rfl⟩
  | dit kvs =>
    obtain ⟨d, hd, rfl⟩ := hz
    obtain ⟨a, ov, rfl, g, hm⟩ := dget_ok sb w1 w2 e1 e2 hd
    cases ov with
    | none => exact hm.elim
    | some v => exact .inr ⟨a, v, rfl, g, seqc hm rfl⟩
  | _ => cases d2 <;> exact hz.elim
theorem de_ix {a b : Expr} {ta tb : TE} {ma mb : TD} (hK : X.K = Z.K) (hu : X.A.units + 1 < cLine) (ha : DE Z X a ta ma) (hb : DE Z X b tb mb) (hs : PlainIx b := by exact fun _ _ => rfl) : DE Z X (.Subscript a b pos) (tOp (rIxA Z.K) ta tb) (mOp dIdx ma mb) :=
  ⟨pe_ix (ix_all hK hu) ha.pe hb.pe hs, .op od_idx ha.lf hb.lf⟩

/-! ### slices -/
abbrev TOd := DSt → (Option Int → DSt → Prop) → Prop
def LiftO (Z : ZX) (t : TO) (m : TOd) : Prop := ∀ (σ : L2.St) (H F : Hp) (A : List Addr) (s : DSt) (Q : Option Int → Hp → Prop) (Qd : Option Int → DSt → Prop), Rel Z F H σ s A → m s Qd →
  (∀ o s' F' H' A', Qd o s' → OutT Z.K F H A σ s' F' H' A' → Q o H') → t σ H Q
structure DO (Z : ZX) (X : Cx) (e : Option Expr) (t : TO) (m : TOd) : Prop where
  po : PO X e t
  lf : LiftO Z t m
def mNoPart : TOd := fun s Q => Q none s
def mPart (m : TD) : TOd := fun s Q => m s fun w s' => ∃ i, res s' w = some (.int i) ∧ Q (some i) s'
theorem do_none : DO Z X none tNoPart mNoPart := ⟨po_none, fun σ H F A s Q Qd R h k => k _ _ _ _ _ h ⟨Frm.refl, R.sub, R.own, R.nd⟩⟩
theorem do_some {e : Expr} {t : TE} {m : TD} (h : DE Z X e t m) : DO Z X (some e) (tPart t) (mPart m) := ⟨po_some h.pe, fun σ H F A s Q Qd R q k => by
  refine h.lf σ H F A s _ _ R q fun w s1 v F1 H1 Av A1 h1 o1 => ?_
  obtain ⟨i, e, q⟩ := h1
  have z := o1.wow.view o1.sub o1.own e
  cases z
  exact ⟨i, rfl, k _ _ _ _ _ q o1.t⟩⟩
def cutG {α : Type} (xs : List α) (lo hi : Option Int) : List α := (xs.drop (HT.sIx xs.length 0 lo)).take (HT.sIx xs.length xs.length hi - HT.sIx xs.length 0 lo)
def dSl : D → Option Int → Option Int → M → Prop
  | .lst ds, lo, hi, z => z = .ml (cutG ds lo hi)
  | .tup ds, lo, hi, z => z = .fz (.tup (cutG ds lo hi))
  | .str x, lo, hi, z => x.length ≤ sizeLine ∧ z = .fz (.str (cutS x lo hi))
  | _, _, _, _ => False
def rSlA3 (K : PySem.W.Frag) : V → Option Int → Option Int → Hp → VK → Prop := fun x lo hi H Q => (rSlL K x lo hi H Q ∨ rSlA K x lo hi H Q) ∨ rSlS x lo hi H Q
theorem sl_any (hK : X.K = K) : SlR X (rSlA3 K) := by
  subst hK
  exact SlR.or (SlR.or sl_list sl_tupA) sl_str
theorem Fzs.cut {vs : List V} {ds : List D} (z : Fzs K F vs ds) (lo hi : Option Int) : Fzs K F (cutV vs lo hi) (cutG ds lo hi) := by
  unfold cutV cutG
  rw [z.length]
  exact (z.drop _).take _
theorem cut_whole {α : Type} {ds : List α} {lo hi : Option Int} (h : HT.sIx ds.length 0 lo = 0 ∧ HT.sIx ds.length ds.length hi = ds.length) : cutG ds lo hi = ds := by
  unfold cutG
  rw [h.1, h.2]
  simp
def mSl (m : TD) (ml mh : TOd) : TD := fun s Q => m s fun w s1 => ml s1 fun lo s2 => mh s2 fun hi s3 => ∃ x z, res s3 w = some x ∧ dSl x lo hi z ∧ Q (.val z) s3
theorem Lift.sl {t : TE} {m : TD} {tl th : TO} {ml mh : TOd} (l : Lift Z t m) (ll : LiftO Z tl ml) (lh : LiftO Z th mh) : Lift Z (tSl (rSlA3 Z.K) t tl th) (mSl m ml mh) := by
  intro σ H F A s Q Qd R h k
  refine l σ H F A s _ _ R h fun w s1 v F1 H1 Av A1 h1 o1 => ?_
  refine ll σ H1 F1 A1 s1 _ _ (o1.rel R) h1 fun lo s2 F2 H2 A2 h2 o2 => ?_
  refine lh σ H2 F2 A2 s2 _ _ (o2.rel (o1.rel R)) h2 fun hi s3 F3 H3 A3 h3 o3 => ?_
  obtain ⟨x, z, ex, hz, q⟩ := h3
  have o23 := o2.trans o3
  have hx := nd_x o1.nd
  have f3 : Frm F H A F3 H3 (Av ++ A3) := Frm.trans (B := Av) o1.fr o23.fr
  have wo := o1.wow.keep o23.fr hx
  have nd3 : (Av ++ A3).Nodup := nd_mk (nd_l o1.nd) o23.nd (apart (fun a h => (o1.wow.out a h).2) hx o23.fr)
  obtain ⟨m1, C1, w1, rfl⟩ := wo.res o3.own ex
  generalize e1 : m1.frz = d1 at hz
  cases d1 with
  | lst ds =>
    cases hz
    obtain ⟨a, xs, rfl, hx, zz⟩ := w1.lstV o3.sub e1
    refine .inl (.inl ⟨a, xs, rfl, SqL.of hx, fun p hp => ?_⟩)
    obtain ⟨g, sb, ow⟩ := new_lst o3.sub hp (zz.cut lo hi)
    exact k _ _ _ _ _ _ _ q (Out.fin f3 o3.own nd3 g sb ow (by simp))
  | tup ds =>
    cases hz
    obtain ⟨a, xs, rfl, hx, zz, zf⟩ := w1.tupV o3.sub e1
    have hl := zz.length
    refine .inl (.inr ⟨a, xs, rfl, SqT.of hx, fun hw => ?_, fun hw p hp => ?_⟩)
    · rw [hl] at hw
      rw [cut_whole hw] at q
      exact k _ _ _ _ _ _ _ q (Out.fin0 f3 o3.sub o3.own nd3 zf)
    · obtain ⟨g, sb, ow⟩ := new_tup o3.sub hp (zz.cut lo hi)
      exact k _ _ _ _ _ _ _ q (Out.fin f3 o3.own nd3 g sb ow List.nodup_nil)
  | str x =>
    obtain ⟨hl, rfl⟩ := hz
    exact .inr ⟨x, w1.strV e1, hl, k _ _ _ _ _ _ _ q (Out.fin0 f3 o3.sub o3.own nd3 (.str _))⟩
  | _ => exact hz.elim
theorem de_sl {a : Expr} {lo hi : Option Expr} {ta : TE} {ma : TD} {tl th : TO} {ml mh : TOd} {p2 : Pos} (hK : X.K = Z.K) (ha : DE Z X a ta ma) (hl : DO Z X lo tl ml) (hh : DO Z X hi th mh) : DE Z X (.Subscript a (.Slice lo hi none p2) pos) (tSl (rSlA3 Z.K) ta tl th) (mSl ma ml mh) :=
  ⟨pe_slice (sl_any hK) ha.pe hl.po hh.po, .sl ha.lf hl.lf hh.lf⟩
end
end DL

namespace DL
open PySem PySem.Spec L2

/-- what is walked: the items ds, while G stands -/
structure ItD (K : PySem.W.Frag) (J : It) (ds : List D) (G : Hp → Prop) : Prop where
  mono : ∀ F F', (∀ a o, F a = some o → F' a = some o) → G F → G F'
  go : ∀ i F H, Sub F H → G F → i < ds.length → J.go i H
  yld : ∀ (i : Nat) F H x H' d, Sub F H → G F → ds[i]? = some d → J.yld i H x H' → ∃ F', Frm F H [] F' H' [] ∧ Sub F' H' ∧ Fz K F' x d
  stop : ∀ F H, Sub F H → G F → J.stop ds.length H
abbrev TId := DSt → (List D → DSt → Prop) → Prop
def LiftI (Z : ZX) (t : TI) (m : TId) : Prop := ∀ (σ : L2.St) (H F : Hp) (A : List Addr) (s : DSt) (R : It → Hp → Prop) (Rd : List D → DSt → Prop), Rel Z F H σ s A → m s Rd →
  (∀ ds s' F' H' A' J G, Rd ds s' → OutT Z.K F H A σ s' F' H' A' → ItD Z.K J ds G → G F' → R J H') → t σ H R
structure DI (Z : ZX) (X : Cx) (tg iter : Expr) (t : TI) (m : TId) : Prop where
  pi : PI X tg iter t
  lf : LiftI Z t m
section
variable {Z : ZX} {X : Cx} {K : PySem.W.Frag} {F H F1 H1 F2 H2 F3 H3 F' H' : Hp} {A A1 A2 A' Av B : List Addr} {σ : L2.St} {s s1 s2 : DSt} {v : V} {w : W} {pos : Pos} {tg : Expr}
theorem PI.or {e : Expr} {t u : TI} (h : PI X tg e t) (h' : PI X tg e u) : PI X tg e (fun σ H R => t σ H R ∨ u σ H R) := ⟨fun pins s σ H R I q => by
  rcases q with q | q
  · exact h.run pins s σ H R I q
  · exact h'.run pins s σ H R I q⟩

theorem itd_list {a : Addr} {xs : List V} {ds : List D} : ItD K (Itl K a) ds (fun F => F a = some (.lst xs) ∧ Fzs K F xs ds) where
  mono := fun F F' s g => ⟨s _ _ g.1, g.2.mono (Sub.of s)⟩
  go := fun i F H sb g hi => by
    obtain ⟨d, hd⟩ : ∃ d, ds[i]? = some d := ⟨ds[i], by simp [hi]⟩
    obtain ⟨x, hx, _⟩ := g.2.get hd
    exact ⟨xs, x, SqL.of (sb.lst g.1), hx⟩
  yld := fun i F H x H' d sb g hd hy => by
    obtain ⟨rfl, hy⟩ := hy
    obtain ⟨y, hx, z⟩ := g.2.get hd
    have := hy xs (SqL.of (sb.lst g.1))
    rw [hx] at this
    cases this
    exact ⟨F, Frm.refl, sb, z⟩
  stop := fun F H sb g => ⟨xs, SqL.of (sb.lst g.1), by rw [g.2.length]; exact Nat.le_refl _⟩
theorem itd_scr {a : Addr} {ns : List Int} (hinj : True) : ItD K (Itl K a) (ns.map D.int) (fun F => SqL K F a (ns.map V.int)) where
  mono := fun F F' s g => (Sub.of s).sqL g
  go := fun i F H sb g hi => by
    rw [List.length_map] at hi
    exact ⟨_, .int ns[i], sb.sqL g, by simp [hi]⟩
  yld := fun i F H x H' d sb g hd hy => by
    obtain ⟨rfl, hy⟩ := hy
    have := hy _ (sb.sqL g)
    rw [List.getElem?_map] at hd this
    cases e : ns[i]? with
    | none => simp [e] at hd
    | some n =>
      simp [e] at hd this
      subst hd this
      exact ⟨F, Frm.refl, sb, .int n⟩
  stop := fun F H sb g => ⟨_, sb.sqL g, by simp⟩
theorem itd_tup {a : Addr} {xs : List V} {ds : List D} : ItD K (Itt K a) ds (fun F => SqT K F a xs ∧ Fzs K F xs ds) where
  mono := fun F F' s g => ⟨(Sub.of s).sqT g.1, g.2.mono (Sub.of s)⟩
  go := fun i F H sb g hi => by
    obtain ⟨d, hd⟩ : ∃ d, ds[i]? = some d := ⟨ds[i], by simp [hi]⟩
    obtain ⟨x, hx, _⟩ := g.2.get hd
    exact ⟨xs, x, sb.sqT g.1, hx⟩
  yld := fun i F H x H' d sb g hd hy => by
    obtain ⟨rfl, hy⟩ := hy
    obtain ⟨y, hx, z⟩ := g.2.get hd
    have := hy xs (sb.sqT g.1)
    rw [hx] at this
    cases this
    exact ⟨F, Frm.refl, sb, z⟩
  stop := fun F H sb g => ⟨xs, sb.sqT g.1, by rw [g.2.length]; exact Nat.le_refl _⟩
def chars (x : Str) : List D := x.cps.toList.map fun c => .str ⟨#[c]⟩
theorem itd_str {x : Str} : ItD K (Its x) (chars x) (fun _ => True) where
  mono := fun _ _ _ g => g
  go := fun i F H sb g hi => by
    have hi' : i < x.cps.size := by simpa [chars] using hi
    exact hi'
  yld := fun i F H v H' d sb g hd hy => by
    obtain ⟨rfl, c, hc, rfl⟩ := hy
    have e : (chars x)[i]? = some (.str ⟨#[c]⟩) := by
      unfold chars
      rw [List.getElem?_map]
      simp [hc]
    rw [e] at hd
    cases hd
    exact ⟨F, Frm.refl, sb, .str _⟩
  stop := fun F H sb g => by
    show x.cps.size ≤ (chars x).length
    simp [chars]
def rng (lo : Int) (n : Nat) : List D := (List.range n).map fun i => .int (lo + (i : Nat))
theorem itd_range {lo : Int} {n : Nat} : ItD K (Itr lo n) (rng lo n) (fun _ => True) where
  mono := fun _ _ _ g => g
  go := fun i F H sb g hi => by
    have hi' : i < n := by simpa [rng] using hi
    exact hi'
  yld := fun i F H v H' d sb g hd hy => by
    obtain ⟨rfl, rfl⟩ := hy
    have hi : i < n := by
      have := (List.getElem?_eq_some_iff.mp hd).1
      simpa [rng] using this
    have e : (rng lo n)[i]? = some (.int (lo + i)) := by
      unfold rng
      rw [List.getElem?_map]
      simp [hi]
    rw [e] at hd
    cases hd
    exact ⟨F, Frm.refl, sb, .int _⟩
  stop := fun F H sb g => by
    show n ≤ (rng lo n).length
    simp [rng]
def rngC (lo c : Int) (n : Nat) : List D := (List.range n).map fun i => .int (lo + (i : Nat) * c)
theorem itd_rangeC {lo c : Int} {n : Nat} : ItD K (Itc lo c n) (rngC lo c n) (fun _ => True) where
  mono := fun _ _ _ g => g
  go := fun i F H sb g hi => by
    have hi' : i < n := by simpa [rngC] using hi
    exact hi'
  yld := fun i F H v H' d sb g hd hy => by
    obtain ⟨rfl, rfl⟩ := hy
    have hi : i < n := by
      have := (List.getElem?_eq_some_iff.mp hd).1
      simpa [rngC] using this
    have e : (rngC lo c n)[i]? = some (.int (lo + i * c)) := by
      unfold rngC
      rw [List.getElem?_map]
      simp [hi]
    rw [e] at hd
    cases hd
    exact ⟨F, Frm.refl, sb, .int _⟩
  stop := fun F H sb g => by
    show n ≤ (rngC lo c n).length
    simp [rngC]

/-! ### the sources -/
def D.items : D → Option (List D)
  | .lst ds => some ds
  | .tup ds => some ds
  | .wtu ds => some ds
  | .scr ns => some (ns.map D.int)
  | .str x => some (chars x)
  | _ => none
def mItems (m : TD) : TId := fun s R => m s fun w s1 => tv w s1 fun y s2 => ∃ ds, y.frz.items = some ds ∧ R ds s2
/-- what a value's iterator walks, by the value -/
def rIter (K : PySem.W.Frag) : V → Hp → (It → Hp → Prop) → Prop := fun x H R =>
  ((∃ a, x = .ref a ∧ (∃ xs, SqL K H a xs) ∧ R (Itl K a) H) ∨ (∃ a, x = .ref a ∧ (∃ xs, SqT K H a xs) ∧ R (Itt K a) H)) ∨ ∃ z, x = .str z ∧ R (Its z) H
theorem iter_val {pins : List (Addr × Obj)} {s : Shared} {x : V} {u : Value} {R : It → Hp → Prop} (I : L2.Inv X pins σ H s) (r : RelV x u) (h : rIter X.K x H R) : wpAny (model X.prog X.w) X.A (pyIter u) (PIE X pins σ tg R) X.xe s := by
  rcases h with (⟨a, rfl, ⟨xs, hq⟩, q⟩ | ⟨a, rfl, ⟨xs, hq⟩, q⟩) | ⟨z, rfl, q⟩
  · cases r
    obtain ⟨its, rv, p, hz⟩ := I.list hq
    exact wpAny_pyIter_list p.isList (pi_one (tk := s.toks) I _ (turn_list a _) ⟨_, Heap.get?_push_size _ rfl, rfl, rfl⟩ q)
  · cases r
    obtain ⟨its, rv, p, hz⟩ := I.tuple hq
    exact wpAny_pyIter_tuple (show s.heap.IsTuple a its.toArray from p) (pi_one (tk := s.toks) I _ (turn_tuple a _) ⟨_, Heap.get?_push_size _ rfl, rfl, rfl⟩ q)
  · obtain ⟨t, rfl⟩ := r
    cases ha : z.cps.all (· < 128)
    · exact wpAny_pyIter_wide ha (pi_one (tk := s.toks) I _ (turn_str _ z t "str_iterator" (.inr rfl)) ⟨_, Heap.get?_push_size _ rfl, rfl, rfl⟩ q)
    · exact wpAny_pyIter_ascii ha (pi_one (tk := s.toks) I _ (turn_str _ z t "str_ascii_iterator" (.inl rfl)) ⟨_, Heap.get?_push_size _ rfl, rfl, rfl⟩ q)
def iAny (K : PySem.W.Frag) (t : TE) : TI := fun σ H R => t σ H fun x H1 => rIter K x H1 R
theorem pi_any {e : Expr} {t : TE} (hK : X.K = K) (h : PE X e t) : PI X tg e (iAny K t) := ⟨fun pins s σ H R I q => by
  subst hK
  exact thn (h.run pins s σ H _ I q) fun u s1 ⟨x, H1, I1, r1, q1⟩ => iter_val I1 r1 q1⟩
/-- a value kept and frozen -/
theorem tv_fz {Qm : M → DSt → Prop} (o : Out K F H A σ w s1 v F1 H1 Av A1) (h : tv w s1 Qm) : ∃ m s2 F2 A2, Qm m s2 ∧ OutT K F H A σ s2 F2 H1 A2 ∧ Fz K F2 v m.frz := by
  obtain ⟨m, s2, F2, B2, A2, h2, f2, sb2, ow1, ow2, n2, hB, hA⟩ := tv_ok o.wow o.sub o.own o.nd h
  obtain ⟨F3, f3, sb3, z⟩ := ow1.freeze sb2
  have f12 : Frm F H A F2 H1 (A2 ++ B2) := (o.fr.trans0 f2).weak fun a ha => (List.mem_append.mp ha).elim (List.mem_append_right _) (List.mem_append_left _)
  exact ⟨m, s2, F3, A2, h2, ⟨(Frm.trans (B := A2) f12 f3).weak fun a ha => by simpa using ha, sb3, ow2.keep f3 fun a ha hb => nd_x n2 a hb ha, nd_r n2⟩, z⟩
theorem LiftI.items {t : TE} {m : TD} (l : Lift Z t m) : LiftI Z (iAny Z.K t) (mItems m) := by
  intro σ H F A s R Rd Re h k
  refine l σ H F A s _ _ Re h fun w s1 v F1 H1 Av A1 h1 o1 => ?_
  obtain ⟨y, s2, F2, A2, ⟨ds, hd, q⟩, o, z⟩ := tv_fz o1 h1
  generalize e : y.frz = d at hd z
  cases z with
  | lst hx zs =>
    cases hd
    exact .inl (.inl ⟨_, rfl, ⟨_, SqL.of (o.sub.lst hx)⟩, k _ _ _ _ _ _ _ q o itd_list ⟨hx, zs⟩⟩)
  | scr hx =>
    cases hd
    exact .inl (.inl ⟨_, rfl, ⟨_, o.sub.sqL hx⟩, k _ _ _ _ _ _ _ q o (itd_scr trivial) hx⟩)
  | tup hx zs =>
    cases hd
    exact .inl (.inr ⟨_, rfl, ⟨_, SqT.of (o.sub.tup hx)⟩, k _ _ _ _ _ _ _ q o itd_tup ⟨SqT.of hx, zs⟩⟩)
  | wtu hx zs =>
    cases hd
    exact .inl (.inr ⟨_, rfl, ⟨_, .inr hx⟩, k _ _ _ _ _ _ _ q o itd_tup ⟨.inr hx, zs⟩⟩)
  | str x =>
    cases hd
    exact .inr ⟨_, rfl, k _ _ _ _ _ _ _ q o itd_str trivial⟩
  | _ => cases hd
theorem di_any {e : Expr} {t : TE} {m : TD} (hK : X.K = Z.K) (h : DE Z X e t m) : DI Z X tg e (iAny Z.K t) (mItems m) := ⟨pi_any hK h.pe, .items h.lf⟩
/-- range(j), range(i, j), range(i, j, c) -/
def mRng1 (m : TDs) : TId := fun s R => m s fun ws s1 => ∃ j : Int, resL s1 ws = some [.int j] ∧ -(2 ^ 62) ≤ j ∧ j < 2 ^ 62 ∧ R (rng 0 j.toNat) s1
def mRng2 (m : TDs) : TId := fun s R => m s fun ws s1 => ∃ i j : Int, resL s1 ws = some [.int i, .int j] ∧ (-(2 ^ 62) ≤ i ∧ i < 2 ^ 62 ∧ -(2 ^ 62) ≤ j ∧ j < 2 ^ 62) ∧ R (rng i (j - i).toNat) s1
def mRng3 (m : TDs) : TId := fun s R => m s fun ws s1 => ∃ (i j c : Int) (n : Nat), resL s1 ws = some [.int i, .int j, .int c] ∧ RgC i j c n ∧ R (rngC i c n) s1
theorem Outs.t {K : PySem.W.Frag} {ws : List W} {vs : List V} (o : Outs K F H A σ ws s1 vs F1 H1 Av A1) : OutT K F H A σ s1 F1 H1 A1 := ⟨o.fr.weak fun a h => List.mem_append_right _ h, o.sub, o.own, nd_r o.nd⟩
theorem OwV.ints : ∀ {vs : List V} {ms : List M} {ds : List D} {is : List Int}, OwV K F H vs ms → ms.map M.frz = ds → ds = is.map D.int → vs = is.map V.int
  | _, _, ds, is, .nil, e, h => by
    subst e
    cases is with
    | nil => rfl
    | cons _ _ => cases h
  | _, _, ds, is, .cons o r, e, h => by
    subst e
    cases is with
    | nil => cases h
    | cons i is =>
      simp only [List.map_cons, List.cons.injEq] at h ⊢
      exact ⟨o.intV h.1, OwV.ints r rfl h.2⟩
theorem LiftI.rng1 {t : TA} {m : TDs} (l : Lifts Z t m) : LiftI Z (iRng1 t) (mRng1 m) := by
  intro σ H F A s R Rd Re h k
  refine l σ H F A s _ _ Re h fun ws s1 vs F1 H1 Av A1 h1 o1 => ?_
  obtain ⟨j, e, h1, h2, q⟩ := h1
  obtain ⟨ms, ov, e2⟩ := o1.wow.res o1.own e
  have := ov.ints e2 (is := [j]) rfl
  subst this
  exact ⟨j, rfl, h1, h2, k _ _ _ _ _ _ _ q o1.t itd_range trivial⟩
theorem LiftI.rng2 {t : TA} {m : TDs} (l : Lifts Z t m) : LiftI Z (iRng2 t) (mRng2 m) := by
  intro σ H F A s R Rd Re h k
  refine l σ H F A s _ _ Re h fun ws s1 vs F1 H1 Av A1 h1 o1 => ?_
  obtain ⟨i, j, e, h1, q⟩ := h1
  obtain ⟨ms, ov, e2⟩ := o1.wow.res o1.own e
  have := ov.ints e2 (is := [i, j]) rfl
  subst this
  exact ⟨i, j, rfl, h1, k _ _ _ _ _ _ _ q o1.t itd_range trivial⟩
theorem LiftI.rng3 {t : TA} {m : TDs} (l : Lifts Z t m) : LiftI Z (iRng3 t) (mRng3 m) := by
  intro σ H F A s R Rd Re h k
  refine l σ H F A s _ _ Re h fun ws s1 vs F1 H1 Av A1 h1 o1 => ?_
  obtain ⟨i, j, c, n, e, h1, q⟩ := h1
  obtain ⟨ms, ov, e2⟩ := o1.wow.res o1.own e
  have := ov.ints e2 (is := [i, j, c]) rfl
  subst this
  exact ⟨i, j, c, n, rfl, h1, k _ _ _ _ _ _ _ q o1.t itd_rangeC trivial⟩
theorem di_rng1 {a : Expr} {t : TA} {m : TDs} {p : Pos} (hg : Gl X "range") (hm : X.mg "range" = none) (ha : DA Z X [a] t m) (hs : starEach [a] X.env = [(false, eval a X.env)] := by rfl) : DI Z X tg (.Call (.Name "range" p) [a] [] pos) (iRng1 t) (mRng1 m) := ⟨pi_range1 hg hm ha.pa hs, .rng1 ha.lf⟩
theorem di_rng2 {a b : Expr} {t : TA} {m : TDs} {p : Pos} (hg : Gl X "range") (hm : X.mg "range" = none) (ha : DA Z X [a, b] t m) (hs : starEach [a, b] X.env = [(false, eval a X.env), (false, eval b X.env)] := by rfl) (hs2 : starEach [b] X.env = [(false, eval b X.env)] := by rfl) : DI Z X tg (.Call (.Name "range" p) [a, b] [] pos) (iRng2 t) (mRng2 m) := ⟨pi_range2 hg hm ha.pa hs hs2, .rng2 ha.lf⟩
theorem di_rng3 {a b c : Expr} {t : TA} {m : TDs} {p : Pos} (hg : Gl X "range") (hm : X.mg "range" = none) (ha : DA Z X [a, b, c] t m) (hs : starEach [a, b, c] X.env = (false, eval a X.env) :: starEach [b, c] X.env := by rfl) (hpl : (backTo pos (starEach [b, c] X.env)).any (·.1) = false := by rfl) : DI Z X tg (.Call (.Name "range" p) [a, b, c] [] pos) (iRng3 t) (mRng3 m) := ⟨pi_range3 hg hm ha.pa hs hpl, .rng3 ha.lf⟩

/-! ### for -/
/-- P: what holds ahead of each turn -/
def mFor (mi : TId) (g : TGd) (mb : TSd) : TSd := fun D s => mi s fun ds s1 => ∃ P : Nat → DSt → Prop, P 0 s1 ∧ (∀ (i : Nat) d s, ds[i]? = some d → P i s → g (.fz d) s fun s2 => mb { D with nx := P (i + 1), ct := P (i + 1), bk := D.nx } s2) ∧ ∀ s, P ds.length s → D.nx s
theorem LiftS.for_ {wi : TI} {g : TG} {tb : TS} {mi : TId} {gd : TGd} {mb : TSd} (li : LiftI Z wi mi) (lg : LiftG Z g gd) (lb : LiftS Z tb mb) : LiftS Z (tFor wi g tb) (mFor mi gd mb) := by
  intro σ H F A s D Dd R h e
  refine li σ H F A s _ _ R h fun ds s1 F1 H1 A1 J G h1 o1 it g1 => ?_
  obtain ⟨Pv, p0, hs, hd⟩ := h1
  refine ⟨fun i m σ' H' => m = ds.length - i ∧ i ≤ ds.length ∧ ∃ F' A' s', Pv i s' ∧ OutT Z.K F H A σ' s' F' H' A' ∧ G F', ⟨ds.length, rfl, Nat.zero_le _, F1, A1, s1, p0, o1, g1⟩, ?_⟩
  rintro i m σ' H' ⟨rfl, hi, F', A', s', hp, o, gg⟩
  by_cases hlt : i < ds.length
  · refine .inr ⟨it.go i F' H' o.sub gg hlt, fun σ2 H2 => ∃ F2 A2 s2, Pv (i + 1) s2 ∧ OutT Z.K F H A σ2 s2 F2 H2 A2 ∧ G F2, ?_, ?_⟩
    · rintro σ2 H2 ⟨F2, A2, s2, hp2, o2, g2⟩
      exact ⟨ds.length - (i + 1), by omega, rfl, by omega, F2, A2, s2, hp2, o2, g2⟩
    · intro x H2 hy
      obtain ⟨d, hd'⟩ : ∃ d, ds[i]? = some d := ⟨ds[i], by simp [hlt]⟩
      obtain ⟨F2, f2, sb2, z⟩ := it.yld i F' H' x H2 d o.sub gg hd' hy
      have ow2 : OwS Z.K F2 H2 σ' s' A' := o.own.keep f2 fun a _ h => nomatch h
      have fr2 : Frm F H A F2 H2 A' := (Frm.trans (B := A') (A1 := []) (by simpa using o.fr) f2).weak fun a ha => by simpa using ha
      have gg2 := it.mono F' F2 f2.fsub gg
      refine lg σ' H2 F2 [] A' s' x (.fz d) _ _ sb2 (.fz z) ow2 o.nd (hs i d s' hd' hp) fun σ3 s3 F3 H3 A3 q3 f3 sb3 ow3 nd3 => ?_
      have fr3 : Frm F H A F3 H3 A3 := fr2.trans0 f3
      have gg3 := it.mono F2 F3 f3.fsub gg2
      refine lb σ3 H3 F3 A3 s3 _ _ ⟨sb3, ow3, nd3, R.ex.step fr3⟩ q3 ⟨?_, ?_, ?_, ?_⟩
      · intro σ4 s4 F4 H4 A4 f4 sb4 ow4 nd4 q4
        exact ⟨F4, A4, s4, q4, ⟨fr3.trans0 f4, sb4, ow4, nd4⟩, it.mono F3 F4 f4.fsub gg3⟩
      · intro σ4 s4 F4 H4 A4 f4 sb4 ow4 nd4 q4
        exact e.nx σ4 s4 F4 H4 A4 (fr3.trans0 f4) sb4 ow4 nd4 q4
      · intro σ4 s4 F4 H4 A4 f4 sb4 ow4 nd4 q4
        exact ⟨F4, A4, s4, q4, ⟨fr3.trans0 f4, sb4, ow4, nd4⟩, it.mono F3 F4 f4.fsub gg3⟩
      · intro v m4 σ4 s4 F4 H4 Av A4 f4 sb4 wv ow4 nd4 q4
        exact e.rt v m4 σ4 s4 F4 H4 Av A4 (fr3.trans0 f4) sb4 wv ow4 nd4 q4
  · have hi' : i = ds.length := by omega
    subst hi'
    exact .inl ⟨it.stop F' H' o.sub gg, e.nx σ' s' F' H' A' o.fr o.sub o.own o.nd (hd s' hp)⟩
theorem ds_for {iter : Expr} {body : List Stmt} {wi : TI} {g : TG} {tb : TS} {mi : TId} {gd : TGd} {mb : TSd} (hp : PassesOwn (model X.prog X.w) X.A X.env X.xe) (hc : X.calm = true) (hi : DI Z X tg iter wi mi) (hg : DG Z X tg g gd) (hb : DSs Z X body tb mb) (hs : ∀ x, foldedSetIterable iter X.env x = pure x := by intro _; rfl) : DS Z X (.For tg iter body [] pos) (tFor wi g tb) (mFor mi gd mb) :=
  ⟨ps_for hp hc hi.pi hg.pg hb.ps hs, .for_ hi.lf hg.lf hb.lf⟩
/-! ### while -/
def mWhile (c : TTd) (mb : TSd) : TSd := fun D s => ∃ P : Nat → DSt → Prop, (∃ n, P n s) ∧ ∀ n s, P n s → c s fun b s1 => if b = true then mb { D with nx := fun s' => ∃ n', n' < n ∧ P n' s', ct := fun s' => ∃ n', n' < n ∧ P n' s', bk := D.nx } s1 else D.nx s1
theorem LiftS.while_ {c : TT} {tb : TS} {mc : TTd} {mb : TSd} (lc : LiftT Z c mc) (lb : LiftS Z tb mb) : LiftS Z (tWhile c tb) (mWhile mc mb) := by
  intro σ H F A s D Dd R h e
  obtain ⟨Pv, ⟨n, p0⟩, hs⟩ := h
  refine ⟨fun m σ' H' => ∃ F' A' s', Pv m s' ∧ OutT Z.K F H A σ' s' F' H' A', ⟨n, F, A, s, p0, Frm.refl, R.sub, R.own, R.nd⟩, ?_⟩
  rintro m σ' H' ⟨F', A', s', hp, o⟩
  refine lc σ' H' F' A' s' _ _ ⟨o.sub, o.own, o.nd, R.ex.step o.fr⟩ (hs m s' hp) fun b s1 F1 H1 A1 h1 o1 => ?_
  have fr1 := o.fr.trans0 o1.fr
  cases b with
  | false =>
    rw [if_neg Bool.false_ne_true] at h1 ⊢
    exact e.nx σ' s1 F1 H1 A1 fr1 o1.sub o1.own o1.nd h1
  | true =>
    rw [if_pos rfl] at h1 ⊢
    refine ⟨fun σ2 H2 => ∃ m', m' < m ∧ ∃ F2 A2 s2, Pv m' s2 ∧ OutT Z.K F H A σ2 s2 F2 H2 A2, fun σ2 H2 h => h, ?_⟩
    refine lb σ' H1 F1 A1 s1 _ _ ⟨o1.sub, o1.own, o1.nd, R.ex.step fr1⟩ h1 ⟨?_, ?_, ?_, ?_⟩
    · rintro σ4 s4 F4 H4 A4 f4 sb4 ow4 nd4 ⟨n', hn, q4⟩
      exact ⟨n', hn, F4, A4, s4, q4, fr1.trans0 f4, sb4, ow4, nd4⟩
    · intro σ4 s4 F4 H4 A4 f4 sb4 ow4 nd4 q4
      exact e.nx σ4 s4 F4 H4 A4 (fr1.trans0 f4) sb4 ow4 nd4 q4
    · rintro σ4 s4 F4 H4 A4 f4 sb4 ow4 nd4 ⟨n', hn, q4⟩
      exact ⟨n', hn, F4, A4, s4, q4, fr1.trans0 f4, sb4, ow4, nd4⟩
    · intro v m4 σ4 s4 F4 H4 Av A4 f4 sb4 wv ow4 nd4 q4
      exact e.rt v m4 σ4 s4 F4 H4 Av A4 (fr1.trans0 f4) sb4 wv ow4 nd4 q4
theorem ds_while {c : Expr} {body : List Stmt} {tc : TT} {tb : TS} {mc : TTd} {mb : TSd} (hp : PassesOwn (model X.prog X.w) X.A X.env X.xe) (hc : DT Z X c tc mc) (hb : DSs Z X body tb mb) : DS Z X (.While c body [] pos) (tWhile tc tb) (mWhile mc mb) :=
  ⟨ps_while hp hc.pt hb.ps, .while_ hc.lf hb.lf⟩
end
end DL

namespace DL
open PySem PySem.Spec L2

section
variable {Z : ZX} {X : Cx} {K : PySem.W.Frag} {F H F1 H1 F2 H2 F3 H3 F' H' : Hp} {A A1 A2 A' Av B : List Addr} {σ σ2 : L2.St} {s s0 s1 s2 : DSt} {v : V} {w : W} {pos : Pos} {tg : Expr}

def wipeD (s : DSt) : List Nat → DSt
  | [] => s
  | v :: vs => (wipeD s vs).set v .un
/-- nothing owned stands there -/
def Slot.free : Slot → Bool
  | .un => true
  | .v (.fz _) => true
  | _ => false
def freeAt (s : DSt) (vs : List Nat) : Bool := vs.all fun i => match s[i]? with
  | some sl => sl.free
  | none => true
def unw (s0 s : DSt) : List Nat → DSt
  | [] => s
  | v :: vs => (unw s0 s vs).set v (s0[v]?.getD .un)
/-- a slot without addresses is put -/
theorem OwS.put : ∀ {σ : L2.St} {s : DSt} {A : List Addr} (i : Nat) {xo : Option V} {sl : Slot}, OwS K F H σ s A → (sl = .un ∨ ∃ x d, xo = some x ∧ sl = .v (.fz d) ∧ Fz K F x d) → ∃ A', OwS K F H (σ.set i xo) (s.set i sl) A' ∧ (∀ a ∈ A', a ∈ A) ∧ (A.Nodup → A'.Nodup)
  | _, _, _, i, _, _, .nil, h => ⟨[], .nil, fun _ h => h, fun h => h⟩
  | _, _, _, 0, _, _, .un (A := A2) r, h => by
    rcases h with rfl | ⟨x, d, rfl, rfl, z⟩
    · exact ⟨A2, .un r, fun _ h => h, fun h => h⟩
    · exact ⟨A2, by simpa using OwS.v (.fz z) r, fun _ h => h, fun h => h⟩
  | _, _, _, 0, _, _, .v (A1 := A1) (A2 := A2) w r, h => by
    rcases h with rfl | ⟨x, d, rfl, rfl, z⟩
    · exact ⟨A2, .un r, fun _ h => List.mem_append_right _ h, fun h => nd_r h⟩
    · exact ⟨A2, by simpa using OwS.v (.fz z) r, fun _ h => List.mem_append_right _ h, fun h => nd_r h⟩
  | _, _, _, 0, _, _, .p (A1 := A1) (A2 := A2) w r, h => by
    rcases h with rfl | ⟨x, d, rfl, rfl, z⟩
    · exact ⟨A2, .un r, fun _ h => List.mem_append_right _ h, fun h => nd_r h⟩
    · exact ⟨A2, by simpa using OwS.v (.fz z) r, fun _ h => List.mem_append_right _ h, fun h => nd_r h⟩
  | _, _, _, i + 1, _, _, .un r, h => by
    obtain ⟨A', k, h1, h2⟩ := OwS.put i r h
    exact ⟨A', .un k, h1, h2⟩
  | _, _, _, i + 1, _, _, .v (A1 := A1) w r, h => by
    obtain ⟨A', k, h1, h2⟩ := OwS.put i r h
    exact ⟨A1 ++ A', .v w k, fun a h => (List.mem_append.mp h).elim (List.mem_append_left _) fun q => List.mem_append_right _ (h1 a q), fun h => nd_mk (nd_l h) (h2 (nd_r h)) fun a ha hb => nd_x h a ha (h1 a hb)⟩
  | _, _, _, i + 1, _, _, .p (A1 := A1) w r, h => by
    obtain ⟨A', k, h1, h2⟩ := OwS.put i r h
    exact ⟨A1 ++ A', .p w k, fun a h => (List.mem_append.mp h).elim (List.mem_append_left _) fun q => List.mem_append_right _ (h1 a q), fun h => nd_mk (nd_l h) (h2 (nd_r h)) fun a ha hb => nd_x h a ha (h1 a hb)⟩
theorem OwS.wipe (o : OwS K F H σ s A) : ∀ vs : List Nat, ∃ A', OwS K F H (L2.wipe σ vs) (wipeD s vs) A' ∧ (∀ a ∈ A', a ∈ A) ∧ (A.Nodup → A'.Nodup)
  | [] => ⟨A, o, fun _ h => h, fun h => h⟩
  | j :: vs => by
    obtain ⟨A1, o1, h1, n1⟩ := o.wipe vs
    obtain ⟨A2, o2, h2, n2⟩ := o1.put j (xo := none) (sl := .un) (.inl rfl)
    exact ⟨A2, o2, fun a h => h1 a (h2 a h), fun h => n2 (n1 h)⟩
/-- the raw slots put back -/
def unwS (σ0 σ : L2.St) : List Nat → L2.St
  | [] => σ
  | v :: vs => (unwS σ0 σ vs).set v (σ0[v]?.getD none)
theorem unwS_length (σ0 : L2.St) : ∀ vs : List Nat, (unwS σ0 σ vs).length = σ.length
  | [] => rfl
  | v :: vs => by rw [unwS, List.length_set, unwS_length]
theorem unwS_get (σ0 : L2.St) (hl : σ0.length = σ.length) : ∀ (vs : List Nat) (j : Nat), (unwS σ0 σ vs)[j]? = if j ∈ vs then σ0[j]? else σ[j]?
  | [], j => by simp [unwS]
  | v :: vs, j => by
    rw [unwS, List.getElem?_set]
    by_cases e : v = j
    · subst e
      simp only [if_true, List.mem_cons, true_or]
      rw [unwS_length]
      by_cases hlt : v < σ.length
      · rw [if_pos hlt]
        have : v < σ0.length := by omega
        simp [this]
      · rw [if_neg hlt]
        have : ¬ v < σ0.length := by omega
        simp [List.getElem?_eq_none (Nat.le_of_not_lt this)]
    · rw [if_neg e, unwS_get σ0 hl vs j]
      have : j ∈ v :: vs ↔ j ∈ vs := by
        constructor
        · intro h; cases h with
          | head => exact absurd rfl e
          | tail _ h => exact h
        · exact List.mem_cons_of_mem _
      by_cases hj : j ∈ vs
      · rw [if_pos hj, if_pos (this.mpr hj)]
      · rw [if_neg hj, if_neg (fun q => hj (this.mp q))]
theorem unwS_eq {σ0 σ : L2.St} {vs : List Nat} (h : L2.wipe σ vs = L2.wipe σ0 vs) : unwS σ0 σ vs = σ0 := by
  have hl : σ0.length = σ.length := by
    have := congrArg List.length h
    rw [wipe_length, wipe_length] at this
    exact this.symm
  refine List.ext_getElem? fun j => ?_
  rw [unwS_get σ0 hl]
  by_cases hj : j ∈ vs
  · rw [if_pos hj]
  · rw [if_neg hj, ← wipe_out hj, ← wipe_out (σ := σ0) hj, h]
theorem freeAt_at {i : Nat} {vs : List Nat} (h : freeAt s vs = true) (hi : i ∈ vs) : ∀ sl, s[i]? = some sl → sl.free = true := fun sl e => by
  have := List.all_eq_true.mp h i hi
  simp only [e] at this
  exact this
theorem OwS.unw (o : OwS K F H σ s A) {σ0 : L2.St} (o0 : OwS K F1 H1 σ0 s0 A1) (hF : ∀ a u, F1 a = some u → F a = some u) : ∀ vs : List Nat, freeAt s0 vs = true → ∃ A', OwS K F H (unwS σ0 σ vs) (DL.unw s0 s vs) A' ∧ (∀ a ∈ A', a ∈ A) ∧ (A.Nodup → A'.Nodup)
  | [], _ => ⟨A, o, fun _ h => h, fun h => h⟩
  | j :: vs, h => by
    have hv : freeAt s0 vs = true := by
      unfold freeAt at h ⊢
      rw [List.all_cons, Bool.and_eq_true] at h
      exact h.2
    obtain ⟨A2, o2, h2, n2⟩ := OwS.unw o o0 hF vs hv
    have key : (s0[j]?.getD .un = .un) ∨ ∃ x d, σ0[j]?.getD none = some x ∧ s0[j]?.getD .un = .v (.fz d) ∧ Fz K F x d := by
      cases e : s0[j]? with
      | none => exact .inl rfl
      | some sl =>
        have hf := freeAt_at h List.mem_cons_self sl e
        cases sl with
        | un => exact .inl rfl
        | p x m => cases hf
        | v m =>
          cases m with
          | fz d =>
            obtain ⟨x, C, ex, ow, _⟩ := o0.get e rfl
            cases ow with
            | fz z => exact .inr ⟨x, d, by simp [ex], rfl, z.mono (Sub.of hF)⟩
          | ml _ => cases hf
          | md _ => cases hf
          | mt _ => cases hf
    obtain ⟨A3, o3, h3, n3⟩ := o2.put j key
    exact ⟨A3, o3, fun a h => h2 a (h3 a h), fun h => n3 (n2 h)⟩

/-- a target that touches the slots vs alone -/
def GOnly (g : TG) (vs : List Nat) : Prop := ∀ v σ H Q, g v σ H Q → g v σ H fun σ2 H2 => L2.wipe σ2 vs = L2.wipe σ vs ∧ Q σ2 H2
def GOnlys (g : TGs) (vs : List Nat) : Prop := ∀ v σ H Q, g v σ H Q → g v σ H fun σ2 H2 => L2.wipe σ2 vs = L2.wipe σ vs ∧ Q σ2 H2
theorem wipe_get : ∀ (vs : List Nat) (j : Nat), (L2.wipe σ vs)[j]? = if j ∈ vs then (σ[j]?.map fun _ => none) else σ[j]?
  | [], j => by simp [L2.wipe]
  | v :: vs, j => by
    rw [L2.wipe, List.getElem?_set]
    by_cases e : v = j
    · subst e
      simp only [if_true, List.mem_cons, true_or]
      rw [wipe_length]
      by_cases hlt : v < σ.length
      · rw [if_pos hlt]; simp [hlt]
      · rw [if_neg hlt]; simp [List.getElem?_eq_none (Nat.le_of_not_lt hlt)]
    · rw [if_neg e, wipe_get vs j]
      have : j ∈ v :: vs ↔ j ∈ vs := by
        constructor
        · intro h; cases h with
          | head => exact absurd rfl e
          | tail _ h => exact h
        · exact List.mem_cons_of_mem _
      by_cases hj : j ∈ vs
      · rw [if_pos hj, if_pos (this.mpr hj)]
      · rw [if_neg hj, if_neg (fun q => hj (this.mp q))]
theorem GOnly.name {i : Nat} {vs : List Nat} (h : i ∈ vs) : GOnly (gName i) vs := fun v σ H Q q => ⟨by
  refine List.ext_getElem? fun j => ?_
  rw [wipe_get, wipe_get]
  by_cases hj : j ∈ vs
  · rw [if_pos hj, if_pos hj, List.getElem?_set]
    by_cases e : i = j
    · subst e
      by_cases hlt : i < σ.length <;> simp [hlt]
    · rw [if_neg e]
  · rw [if_neg hj, if_neg hj, List.getElem?_set, if_neg (fun e => hj (by rw [← e]; exact h))], q⟩
theorem GOnlys.nil {vs : List Nat} : GOnlys gNil vs := fun v σ H Q q => ⟨q.1, rfl, q.2⟩
theorem gName_mono {i : Nat} {v : V} {σ : L2.St} {H : Hp} {Q Q' : L2.St → Hp → Prop} (h : gName i v σ H Q) (hQ : ∀ σ H, Q σ H → Q' σ H) : gName i v σ H Q' := hQ _ _ h
/-- targets ask their end at one place -/
def GMono (g : TG) : Prop := ∀ v σ H Q Q', (∀ σ H, Q σ H → Q' σ H) → g v σ H Q → g v σ H Q'
def GMonos (g : TGs) : Prop := ∀ v σ H Q Q', (∀ σ H, Q σ H → Q' σ H) → g v σ H Q → g v σ H Q'
theorem GMono.name {i : Nat} : GMono (gName i) := fun _ _ _ _ _ h q => h _ _ q
theorem GMonos.nil : GMonos gNil := fun _ _ _ _ _ h q => ⟨q.1, h _ _ q.2⟩
theorem GMonos.cons {t : TG} {u : TGs} (ht : GMono t) (hu : GMonos u) : GMonos (gCons t u) := fun vs σ H Q Q' h q => by
  obtain ⟨v, r, e, q⟩ := q
  exact ⟨v, r, e, ht v σ H _ _ (fun σ H q => hu r σ H _ _ h q) q⟩
theorem GMono.tup {K : PySem.W.Frag} {n : Nat} {t : TGs} (h : GMonos t) : GMono (gTup K n t) := fun v σ H Q Q' hq q => by
  obtain ⟨a, xs, e, hs, hl, q⟩ := q
  exact ⟨a, xs, e, hs, hl, h xs σ H _ _ hq q⟩
theorem GOnlys.cons {t : TG} {u : TGs} {vs : List Nat} (mt : GMono t) (mu : GMonos u) (ht : GOnly t vs) (hu : GOnlys u vs) : GOnlys (gCons t u) vs := fun xs σ H Q q => by
  obtain ⟨v, r, e, q⟩ := q
  refine ⟨v, r, e, mt v σ H _ _ (fun σ2 H2 h => ?_) (ht v σ H _ q)⟩
  exact mu r σ2 H2 _ _ (fun σ3 H3 h3 => ⟨h3.1.trans h.1, h3.2⟩) (hu r σ2 H2 _ h.2)
theorem GOnly.tup {K : PySem.W.Frag} {n : Nat} {t : TGs} {vs : List Nat} (h : GOnlys t vs) : GOnly (gTup K n t) vs := fun v σ H Q q => by
  obtain ⟨a, xs, e, hs, hl, q⟩ := q
  exact ⟨a, xs, e, hs, hl, h xs σ H _ q⟩

/-- within a comprehension nothing is let out -/
abbrev noxZ (Z : ZX) : ZX := ⟨Z.K, fun _ _ _ _ => False, fun _ _ _ => False, Z.T⟩
theorem nox_ex (t : TbF Z.T F) : ExImp (noxZ Z) F H A := ⟨t, fun _ _ _ _ _ _ _ _ _ _ _ _ _ h => h⟩
theorem takes_blk {Y : Cx} : Takes Y (noxZ Z).W := takes0

/-- a clause's tests -/
structure DTs (Z : ZX) (X : Cx) (ifs : List Expr) (t : TT) (m : TTd) : Prop where
  pt : PTs X ifs t
  lf : LiftT Z t m
def mYes : TTd := fun s Q => Q true s
theorem dts_nil : DTs Z X [] tYes mYes := ⟨pts_nil, fun σ H F A s Q Qd R h k => k _ _ _ _ _ h ⟨Frm.refl, R.sub, R.own, R.nd⟩⟩
theorem dts_one {c : Expr} {t : TT} {m : TTd} (h : DT Z X c t m) : DTs Z X [c] t m := ⟨pts_one h.pt, h.lf⟩

/-- [elt for target in iter if ..]; P: what holds ahead of each turn, of the items made so far and the state -/
def mLc (mi : TId) (g : TGd) (mt : TTd) (me : TD) (vs : List Nat) : TD := fun s Q => mi s fun ds s1 => ∃ P : Nat → List D → DSt → Prop, P 0 [] s1 ∧
  (∀ (i : Nat) d acc s, ds[i]? = some d → P i acc s → freeAt s vs = true ∧ g (.fz d) (wipeD s vs) fun s2 => mt s2 fun b s3 =>
    if b = true then me s3 fun w s4 => tv w s4 fun y s5 => acc.length < sizeLine ∧ P (i + 1) (acc ++ [y.frz]) (unw s s5 vs) else P (i + 1) acc (unw s s3 vs)) ∧
  ∀ acc s, P ds.length acc s → Q (.val (.ml acc)) s
theorem Lift.lc {wi : TI} {g : TG} {tt : TT} {te : TE} {mi : TId} {gd : TGd} {mt : TTd} {me : TD} {vs : List Nat} (go : GOnly g vs) (gm : GMono g) (li : LiftI Z wi mi) (lg : LiftG (noxZ Z) g gd) (lt : LiftT (noxZ Z) tt mt) (le : Lift (noxZ Z) te me) : Lift Z (tLc wi g tt te vs) (mLc mi gd mt me vs) := by
  intro σ H F A s Q Qd R h k
  refine li σ H F A s _ _ R h fun ds s1 F1 H1 A1 J G h1 o1 it g1 => ?_
  obtain ⟨Pv, p0, hs, hd⟩ := h1
  intro Dn hDn
  have new := new_lst (K := Z.K) o1.sub hDn (.nil : Fzs Z.K F1 [] [])
  obtain ⟨gn, sbn, own⟩ := new
  have f0 : Frm F H A F1 H1 ([] ++ A1) := by simpa using o1.fr
  have q0 := Out.fin (σ := σ) f0 o1.own (by simpa using o1.nd) gn sbn own (by simp)
  refine ⟨fun i m H' => m = ds.length - i ∧ i ≤ ds.length ∧ ∃ F' A' s' acc, Pv i acc s' ∧ Out Z.K F H A σ (.val (.ml acc)) s' (.ref Dn) F' H' [Dn] A' ∧ G F', ⟨ds.length, rfl, Nat.zero_le _, F1, A1, s1, [], p0, q0, g1⟩, ?_⟩
  rintro i m H' ⟨rfl, hi, F', A', s', acc, hp, o, gg⟩
  by_cases hlt : i < ds.length
  · refine .inr ⟨it.go i F' H' o.sub gg hlt, fun H2 => ∃ F2 A2 s2 acc, Pv (i + 1) acc s2 ∧ Out Z.K F H A σ (.val (.ml acc)) s2 (.ref Dn) F2 H2 [Dn] A2 ∧ G F2, ?_, ?_⟩
    · rintro H2 ⟨F2, A2, s2, acc2, hp2, o2, g2⟩
      exact ⟨ds.length - (i + 1), by omega, rfl, by omega, F2, A2, s2, acc2, hp2, o2, g2⟩
    · intro x H2 hy
      obtain ⟨d, hd'⟩ : ∃ d, ds[i]? = some d := ⟨ds[i], by simp [hlt]⟩
      obtain ⟨F2, f2, sb2, z⟩ := it.yld i F' H' x H2 d o.sub gg hd' hy
      obtain ⟨hfree, hg⟩ := hs i d acc s' hd' hp
      have ow2 : OwS Z.K F2 H2 σ s' A' := o.own.keep f2 fun a _ h => nomatch h
      obtain ⟨Ab, owb, hb1, hb2⟩ := ow2.wipe vs
      have ndA := nd_r o.nd
      have fb : Frm F' H' A' F2 H2 Ab := f2.more (fun a q => nomatch q) (fun a ha => .inl (hb1 a ha))
      have gg2 := it.mono F' F2 f2.fsub gg
      -- the end of a turn: the block's state is left
      have leave : ∀ (σ3 : L2.St) (s5 : DSt) (F5 H5 : Hp) (A5 : List Addr), L2.wipe σ3 vs = L2.wipe σ vs → Frm F2 H2 Ab F5 H5 A5 → Sub F5 H5 → OwS Z.K F5 H5 σ3 s5 A5 → A5.Nodup →
          ∃ A6, Out Z.K F H A σ (.val (.ml acc)) (DL.unw s' s5 vs) (.ref Dn) F5 H5 [Dn] A6 := by
        intro σ3 s5 F5 H5 A5 hw f5 sb5 ow5 nd5
        obtain ⟨A6, ow6, h6, n6⟩ := OwS.unw ow5 ow2 f5.fsub vs hfree
        rw [unwS_eq hw] at ow6
        have f25 : Frm F' H' A' F5 H5 A6 := (fb.trans0 f5).weak h6
        have fr : Frm F H A F5 H5 ([Dn] ++ A6) := Frm.trans (B := [Dn]) o.fr f25
        have hx : ∀ a ∈ [Dn], a ∉ A' := nd_x o.nd
        refine ⟨A6, fr, sb5, o.wow.keep f25 hx, ow6, nd_mk (by simp) (n6 nd5) (apart (fun a h => (o.wow.out a h).2) hx f25)⟩
      have idem : L2.wipe (L2.wipe σ vs) vs = L2.wipe σ vs := by
        refine List.ext_getElem? fun j => ?_
        rw [wipe_get, wipe_get]
        by_cases hj : j ∈ vs
        · rw [if_pos hj, if_pos hj]; cases e : σ[j]? <;> simp
        · rw [if_neg hj, if_neg hj]
      refine gm x (L2.wipe σ vs) H2 _ _ (fun σ3 H3 q => ⟨q.1.trans idem, q.2 (q.1.trans idem)⟩) (go x (L2.wipe σ vs) H2 (fun σ3 H3 => L2.wipe σ3 vs = L2.wipe σ vs → _) (lg (L2.wipe σ vs) H2 F2 [] Ab (wipeD s' vs) x (.fz d) _ _ sb2 (.fz z) owb (by simpa using hb2 ndA) hg ?_))
      intro σ3 s3 F3 H3 A3 q3 f3 sb3 ow3 nd3 hw
      refine lt σ3 H3 F3 A3 s3 _ _ ⟨sb3, ow3, nd3, nox_ex (Z := Z) (((R.ex.tb.frm o.fr).frm f2).frm f3)⟩ q3 fun b s4 F4 H4 A4 q4 o4 => ?_
      have f4 : Frm F2 H2 Ab F4 H4 A4 := Frm.trans0 (A1 := A3) (by simpa using f3) o4.fr
      have gg4 := it.mono F2 F4 f4.fsub gg2
      cases b with
      | false =>
        rw [if_neg Bool.false_ne_true] at q4 ⊢
        obtain ⟨A6, o6⟩ := leave σ3 s4 F4 H4 A4 hw f4 o4.sub o4.own o4.nd
        exact ⟨F4, A6, _, acc, q4, o6, gg4⟩
      | true =>
        rw [if_pos rfl] at q4 ⊢
        refine le σ3 H4 F4 A4 s4 _ _ ⟨o4.sub, o4.own, o4.nd, nox_ex (Z := Z) ((((R.ex.tb.frm o.fr).frm f2).frm f3).frm o4.fr)⟩ q4 fun w s5 y F5 H5 Av5 A5 q5 o5 => ?_
        obtain ⟨m, s6, F6, A6, ⟨hl, q6⟩, o6, zy⟩ := tv_fz o5 q5
        have f6 : Frm F2 H2 Ab F6 H5 A6 := f4.trans0 o6.fr
        obtain ⟨A7, o7⟩ := leave σ3 s6 F6 H5 A6 hw f6 o6.sub o6.own o6.nd
        have gg6 := it.mono F2 F6 f6.fsub gg2
        have w7 := o7.wow
        cases w7 with
        | val ow7 =>
          cases ow7 with
          | ml nF hH zs =>
            rename_i accV
            have hx7 := nd_x o7.nd
            have lacc := zs.length
            refine ⟨accV, hH, by omega, F6, A7, _, acc ++ [m.frz], q6, ?_, gg6⟩
            -- the list has grown
            have g8 : Frm F6 H5 [Dn] F6 (upd H5 Dn (.lst (accV ++ [y]))) [Dn] := Frm.upd hH trivial
            have sb8 : Sub F6 (upd H5 Dn (.lst (accV ++ [y]))) := o7.sub.upd nF (.inr ⟨_, hH, trivial⟩)
            have ow8 : OwS Z.K F6 (upd H5 Dn (.lst (accV ++ [y]))) σ (DL.unw s' s6 vs) A7 := o7.own.keep g8 fun a ha hb => hx7 a hb ha
            refine ⟨?_, sb8, .val (.ml nF upd_same (zs.append (.cons zy .nil))), ow8, o7.nd⟩
            have f7 : Frm F H A F6 H5 (A7 ++ [Dn]) := o7.fr.weak fun a ha => (List.mem_append.mp ha).elim (List.mem_append_right _) (List.mem_append_left _)
            exact (Frm.trans (B := A7) f7 g8).weak fun a ha => (List.mem_append.mp ha).elim (List.mem_append_right _) (List.mem_append_left _)
  · have hi' : i = ds.length := by omega
    subst hi'
    exact .inl ⟨it.stop F' H' o.sub gg, k _ _ _ _ _ _ _ (hd acc s' hp) o⟩
theorem de_lc {elt iter : Expr} {ifs : List Expr} {scope : Scope} {own : List (Str × Nat)} {wi : TI} {g : TG} {tt : TT} {te : TE} {mi : TId} {gd : TGd} {mt : TTd} {me : TD} (hc : X.calm = true) (hN : X.N.Nodup) (hi : DI Z X tg iter wi mi) (ok : BlkOk X.N X.env.scope scope own) (go : GOnly g (own.map (·.2))) (gm : GMono g)
    (hg : ∀ (s : Shared) (H : Hp) (C : Addr) (cl : List (Str × Addr)) (fp : List Addr), DG (noxZ Z) (X.blk s H scope (compEnvC scope cl C X.env) fp) tg g gd)
    (ht : ∀ (s : Shared) (H : Hp) (C : Addr) (cl : List (Str × Addr)) (fp : List Addr), DTs (noxZ Z) (X.blk s H scope (compEnvC scope cl C X.env) fp) ifs tt mt)
    (he : ∀ (s : Shared) (H : Hp) (C : Addr) (cl : List (Str × Addr)) (fp : List Addr), DE (noxZ Z) (X.blk s H scope (compEnvC scope cl C X.env) fp) elt te me)
    (hs : ∀ x, foldedSetIterable iter X.env x = pure x := by intro _; rfl) : DE Z X (.ListComp elt [⟨tg, iter, ifs, 0⟩] scope pos) (tLc wi g tt te (own.map (·.2))) (mLc mi gd mt me (own.map (·.2))) :=
  ⟨pe_lc hc hN hi.pi ok (fun s H C cl fp => (hg s H C cl fp).pg) (fun s H C cl fp => (ht s H C cl fp).pt) (fun s H C cl fp => (he s H C cl fp).pe) hs,
    .lc go gm hi.lf (hg {} (fun _ => none) 0 [] []).lf (ht {} (fun _ => none) 0 [] []).lf (he {} (fun _ => none) 0 [] []).lf⟩
/-- y = [..] on one line, y a local name -/
theorem ds_setLc {i : Nat} {y : Str} {py spos : Pos} {elt iter : Expr} {ifs : List Expr} {scope : Scope} {own : List (Str × Nat)} {wi : TI} {g : TG} {tt : TT} {te : TE} {mi : TId} {gd : TGd} {mt : TTd} {me : TD} (hc : X.calm = true) (hN : X.N.Nodup) (hy : X.N[i]? = some y) (hyl : X.env.scope.names.lookup y = some .local) (hsw : swapsWith (.ListComp elt [⟨tg, iter, ifs, 0⟩] scope pos) (some (.Name y py)) spos.line X.env = pure true) (hi : DI Z X tg iter wi mi) (ok : BlkOk X.N X.env.scope scope own) (go : GOnly g (own.map (·.2))) (gm : GMono g)
    (hg : ∀ (s : Shared) (H : Hp) (C : Addr) (cl : List (Str × Addr)) (fp : List Addr), DG (noxZ Z) (X.blk s H scope (compEnvC scope cl C X.env) fp) tg g gd)
    (ht : ∀ (s : Shared) (H : Hp) (C : Addr) (cl : List (Str × Addr)) (fp : List Addr), DTs (noxZ Z) (X.blk s H scope (compEnvC scope cl C X.env) fp) ifs tt mt)
    (he : ∀ (s : Shared) (H : Hp) (C : Addr) (cl : List (Str × Addr)) (fp : List Addr), DE (noxZ Z) (X.blk s H scope (compEnvC scope cl C X.env) fp) elt te me)
    (hs : ∀ x, foldedSetIterable iter X.env x = pure x := by intro _; rfl) : DS Z X (.Assign [.Name y py] (.ListComp elt [⟨tg, iter, ifs, 0⟩] scope pos) spos) (tAsg (tLc wi g tt te (own.map (·.2))) (gName i)) (mAsg (mLc mi gd mt me (own.map (·.2))) (gNm i)) :=
  ⟨ps_setLc hc hN hy hyl hsw hi.pi ok (fun s H C cl fp => (hg s H C cl fp).pg) (fun s H C cl fp => (ht s H C cl fp).pt) (fun s H C cl fp => (he s H C cl fp).pe) hs,
    .asg (.lc go gm hi.lf (hg {} (fun _ => none) 0 [] []).lf (ht {} (fun _ => none) 0 [] []).lf (he {} (fun _ => none) 0 [] []).lf) .name⟩
end
end DL

namespace DL
open PySem PySem.Spec L2

section
variable {Z : ZX} {X : Cx} {K : PySem.W.Frag} {F H F1 H1 F2 H2 F3 H3 F' H' : Hp} {A A1 A2 A' Av B : List Addr} {σ : L2.St} {s s1 s2 : DSt} {v : V} {w : W} {pos : Pos} {tg : Expr}

/-! ### one argument -/
theorem OwV.one {vs : List V} {ms : List M} {d : D} (o : OwV K F H vs ms) (e : ms.map M.frz = [d]) : ∃ v m B, vs = [v] ∧ ms = [m] ∧ Ow K F H v m B ∧ m.frz = d := by
  cases o with
  | nil => cases e
  | cons a r =>
    cases r with
    | nil => simp at e; exact ⟨_, _, _, rfl, rfl, a, e⟩
    | cons _ _ => simp at e
theorem OwV.two {vs : List V} {ms : List M} {d d' : D} (o : OwV K F H vs ms) (e : ms.map M.frz = [d, d']) : ∃ v m B v' m' B', vs = [v, v'] ∧ Ow K F H v m B ∧ m.frz = d ∧ Ow K F H v' m' B' ∧ m'.frz = d' := by
  cases o with
  | nil => cases e
  | cons a r =>
    cases r with
    | nil => simp at e
    | cons b r =>
      cases r with
      | nil => simp at e; exact ⟨_, _, _, _, _, _, rfl, a, e.1, b, e.2⟩
      | cons _ _ => simp at e
/-- one value in, a value out -/
def f1 (f : D → M → Prop) : List D → M → Prop
  | [d], z => f d z
  | _, _ => False
theorem CallD.one {r : List V → Hp → VK → Prop} {f : D → M → Prop} (h : ∀ (F H : Hp) (x : V) (m : M) (B : List Addr) (z : M) (Q : VK), Sub F H → Ow K F H x m B → f m.frz z → (∀ v F' H' Av, Frm F H [] F' H' Av → Sub F' H' → Ow K F' H' v z Av → Av.Nodup → Q v H') → r [x] H Q) : CallD K r (f1 f) := by
  intro F H xs ms z Q sb ov hz k
  cases ov with
  | nil => exact hz.elim
  | cons a t =>
    cases t with
    | nil => exact h F H _ _ _ z Q sb a hz k
    | cons _ _ => exact hz.elim
/-! ### len -/
theorem call_lenR : CallR X (.builtin "len") (fun xs H Q => ∃ a kvs, xs = [V.ref a] ∧ Rd H a (.dK kvs) ∧ Q (.int kvs.length) H) := by
  intro pins s σ H xs us Q I r h
  obtain ⟨a, kvs, rfl, e, q⟩ := h
  rw [Vals.ref1 r]
  exact d_len I e fun t s' I' => ⟨.int _, H, I', ⟨_, rfl⟩, q⟩
def rLen (K : PySem.W.Frag) : List V → Hp → VK → Prop := fun xs H Q => ((∃ p ys, xs = [.ref p] ∧ (SqL K H p ys ∨ SqT K H p ys) ∧ Q (.int ys.length) H) ∨ (∃ z, xs = [.str z] ∧ z.length ≤ sizeLine ∧ Q (.int z.length) H)) ∨ ∃ a kvs, xs = [V.ref a] ∧ Rd H a (.dK kvs) ∧ Q (.int kvs.length) H
theorem call_lenA (hK : X.K = K) : CallR X (.builtin "len") (rLen K) := by
  subst hK
  exact CallR.or (CallR.or call_len_seq call_len_str) call_lenR
def dLen : D → M → Prop
  | .lst ds, z => z = .fz (.int ds.length)
  | .tup ds, z => z = .fz (.int ds.length)
  | .wtu ds, z => z = .fz (.int ds.length)
  | .scr ns, z => z = .fz (.int ns.length)
  | .str x, z => x.length ≤ sizeLine ∧ z = .fz (.int x.length)
  | .dic ds, z => z = .fz (.int ds.length)
  | _, _ => False
theorem cd_len : CallD K (rLen K) (f1 dLen) := CallD.one fun F H x m B z Q sb w hz k => by
  have zv := w.view sb
  generalize m.frz = d at hz zv
  have fin : ∀ n : Int, z = .fz (.int n) → Q (.int n) H := fun n e => by subst e; exact k _ F H [] Frm.refl sb (.fz (.int n)) List.nodup_nil
  cases zv with
  | lst h r => exact .inl (.inl ⟨_, _, rfl, .inl (SqL.of h), fin _ (by rw [r.length]; exact hz)⟩)
  | tup h r => exact .inl (.inl ⟨_, _, rfl, .inr (SqT.of h), fin _ (by rw [r.length]; exact hz)⟩)
  | wtu h r => exact .inl (.inl ⟨_, _, rfl, .inr (.inr h), fin _ (by rw [r.length]; exact hz)⟩)
  | scr h => exact .inl (.inl ⟨_, _, rfl, .inl h, fin _ (by rw [List.length_map]; exact hz)⟩)
  | str x => exact .inl (.inr ⟨x, rfl, hz.1, fin _ hz.2⟩)
  | dic h r => exact .inr ⟨_, _, rfl, h, fin _ (by rw [r.length]; exact hz)⟩
  | _ => exact hz.elim
/-! ### abs, int, str -/
def dAbs : D → M → Prop
  | .int i, z => z = .fz (.int (if i < 0 then -i else i))
  | _, _ => False
theorem cd_abs : CallD K (fun xs H Q => ∃ i, xs = [.int i] ∧ Q (.int (if i < 0 then -i else i)) H) (f1 dAbs) := CallD.one fun F H x m B z Q sb w hz k => by
  have zv := w.view sb
  generalize m.frz = d at hz zv
  cases zv with
  | int i => cases hz; exact ⟨i, rfl, k _ F H [] Frm.refl sb (.fz (.int _)) List.nodup_nil⟩
  | _ => exact hz.elim
def rInt : List V → Hp → VK → Prop := fun xs H Q => ((∃ i, xs = [.int i] ∧ Q (.int i) H) ∨ ∃ k, xs = [.bl k] ∧ Q (.int (if k then 1 else 0)) H) ∨ ∃ a n, xs = [.str a] ∧ PySem.intText? a = some n ∧ a.length ≤ 640 ∧ Q (.int n) H
theorem call_intA : CallR X (.type "int") rInt := CallR.or call_int1 call_int_str
def dInt : D → M → Prop
  | .int i, z => z = .fz (.int i)
  | .bl b, z => z = .fz (.int (if b then 1 else 0))
  | .str a, z => a.length ≤ 640 ∧ ∃ n, PySem.intText? a = some n ∧ z = .fz (.int n)
  | _, _ => False
theorem cd_int : CallD K rInt (f1 dInt) := CallD.one fun F H x m B z Q sb w hz k => by
  have zv := w.view sb
  generalize m.frz = d at hz zv
  have fin : ∀ n : Int, z = .fz (.int n) → Q (.int n) H := fun n e => by subst e; exact k _ F H [] Frm.refl sb (.fz (.int n)) List.nodup_nil
  cases zv with
  | int i => exact .inl (.inl ⟨i, rfl, fin _ hz⟩)
  | bl b => exact .inl (.inr ⟨b, rfl, fin _ hz⟩)
  | str a => obtain ⟨h1, n, h2, h3⟩ := hz; exact .inr ⟨a, n, rfl, h2, h1, fin _ h3⟩
  | _ => exact hz.elim
def dStr : D → M → Prop
  | .int i, z => i.natAbs.log2 < 1920 ∧ z = .fz (.str (toString i))
  | _, _ => False
theorem cd_str : CallD K (fun xs H Q => ∃ i, xs = [.int i] ∧ i.natAbs.log2 < 1920 ∧ Q (.str (toString i)) H) (f1 dStr) := CallD.one fun F H x m B z Q sb w hz k => by
  have zv := w.view sb
  generalize m.frz = d at hz zv
  cases zv with
  | int i => obtain ⟨h1, rfl⟩ := hz; exact ⟨i, rfl, h1, k _ F H [] Frm.refl sb (.fz (.str _)) List.nodup_nil⟩
  | _ => exact hz.elim
/-! ### list(x), tuple(x) -/
def D.seqs : D → Option (List D)
  | .lst ds => some ds
  | .tup ds => some ds
  | .wtu ds => some ds
  | .scr ns => some (ns.map D.int)
  | _ => none
theorem Fzs.ints : ∀ {ns : List Int}, Fzs K F (ns.map V.int) (ns.map D.int)
  | [] => .nil
  | n :: ns => .cons (.int n) Fzs.ints
theorem Ow.seqV {x : V} {m : M} {ds : List D} (sb : Sub F H) (w : Ow K F H x m B) (e : m.frz.seqs = some ds) : ∃ a xs, x = .ref a ∧ (SqL K H a xs ∨ SqT K H a xs) ∧ Fzs K F xs ds ∧ ((∃ es, m.frz = .tup es) ∨ (∃ es, m.frz = .wtu es) → SqT K H a xs ∧ Fz K F x m.frz) ∧ ((∃ es, m.frz = .lst es) ∨ (∃ es, m.frz = .scr es) → SqL K H a xs) := by
  cases w with
  | fz z =>
    cases id z with
    | lst h r => cases e; exact ⟨_, _, rfl, .inl (SqL.of (sb.lst h)), r, (fun q => by rcases q with ⟨_, q⟩ | ⟨_, q⟩ <;> cases q), fun _ => SqL.of (sb.lst h)⟩
    | tup h r => cases e; exact ⟨_, _, rfl, .inr (SqT.of (sb.tup h)), r, (fun _ => ⟨SqT.of (sb.tup h), z⟩), (fun q => by rcases q with ⟨_, q⟩ | ⟨_, q⟩ <;> cases q)⟩
    | wtu h r => cases e; exact ⟨_, _, rfl, .inr (.inr h), r, (fun _ => ⟨.inr h, z⟩), (fun q => by rcases q with ⟨_, q⟩ | ⟨_, q⟩ <;> cases q)⟩
    | scr h => cases e; exact ⟨_, _, rfl, .inl (sb.sqL h), Fzs.ints, (fun q => by rcases q with ⟨_, q⟩ | ⟨_, q⟩ <;> cases q), fun _ => sb.sqL h⟩
    | _ => cases e
  | ml n h r => cases e; exact ⟨_, _, rfl, .inl (SqL.of h), r, (fun q => by rcases q with ⟨_, q⟩ | ⟨_, q⟩ <;> cases q), fun _ => SqL.of h⟩
  | md n h r => cases e
  | mt n h r => cases e
def dList : D → M → Prop := fun d z => ∃ ds, d.seqs = some ds ∧ z = .ml ds
def rListOf (K : PySem.W.Frag) : List V → Hp → VK → Prop := fun xs H Q => ∃ p ys, xs = [.ref p] ∧ (SqL K H p ys ∨ SqT K H p ys) ∧ ∀ l, H l = none → Q (.ref l) (upd H l (.lst ys))
theorem call_listA (hK : X.K = K) : CallR X (.type "list") (rListOf K) := by subst hK; exact call_list_of
theorem cd_list : CallD K (rListOf K) (f1 dList) := CallD.one fun F H x m B z Q sb w hz k => by
  obtain ⟨ds, e, rfl⟩ := hz
  obtain ⟨a, xs, rfl, h, zs, _⟩ := w.seqV sb e
  refine ⟨a, xs, rfl, h, fun l hl => ?_⟩
  obtain ⟨g, s2, o⟩ := new_lst sb hl zs
  exact k _ _ _ _ g s2 o (by simp)
def dTuple : D → M → Prop
  | .lst ds, z => z = .fz (.tup ds)
  | .scr ns, z => z = .fz (.tup (ns.map D.int))
  | .tup ds, z => z = .fz (.tup ds)
  | .wtu ds, z => z = .fz (.wtu ds)
  | _, _ => False
def rTupleOf (K : PySem.W.Frag) : List V → Hp → VK → Prop := fun xs H Q => ∃ p ys, xs = [.ref p] ∧ ((SqL K H p ys ∧ ∀ l, H l = none → Q (.ref l) (upd H l (.tup ys))) ∨ (SqT K H p ys ∧ Q (.ref p) H))
theorem call_tupleA (hK : X.K = K) : CallR X (.type "tuple") (rTupleOf K) := by subst hK; exact call_tuple_of
theorem cd_tuple : CallD K (rTupleOf K) (f1 dTuple) := CallD.one fun F H x m B z Q sb w hz k => by
  generalize e : m.frz = d at hz
  cases d with
  | lst ds =>
    cases hz
    obtain ⟨a, xs, rfl, h, zs, _, hl⟩ := w.seqV (ds := ds) sb (by rw [e]; rfl)
    refine ⟨a, xs, rfl, .inl ⟨hl (.inl ⟨_, e⟩), fun l hl => ?_⟩⟩
    obtain ⟨g, s2, o⟩ := new_tup sb hl zs
    exact k _ _ _ _ g s2 o List.nodup_nil
  | scr ns =>
    cases hz
    obtain ⟨a, xs, rfl, h, zs, _, hl⟩ := w.seqV (ds := ns.map D.int) sb (by rw [e]; rfl)
    refine ⟨a, xs, rfl, .inl ⟨hl (.inr ⟨_, e⟩), fun l hl => ?_⟩⟩
    obtain ⟨g, s2, o⟩ := new_tup sb hl zs
    exact k _ _ _ _ g s2 o List.nodup_nil
  | tup ds =>
    cases hz
    obtain ⟨a, xs, rfl, h, zs, ht, _⟩ := w.seqV (ds := ds) sb (by rw [e]; rfl)
    have ht := ht (.inl ⟨_, e⟩)
    rw [e] at ht
    exact ⟨a, xs, rfl, .inr ⟨ht.1, k _ F H [] Frm.refl sb (.fz ht.2) List.nodup_nil⟩⟩
  | wtu ds =>
    cases hz
    obtain ⟨a, xs, rfl, h, zs, ht, _⟩ := w.seqV (ds := ds) sb (by rw [e]; rfl)
    have ht := ht (.inr ⟨_, e⟩)
    rw [e] at ht
    exact ⟨a, xs, rfl, .inr ⟨ht.1, k _ F H [] Frm.refl sb (.fz ht.2) List.nodup_nil⟩⟩
  | _ => exact hz.elim
/-! ### isinstance(x, T), x of the type T itself -/
def D.tyN : D → Option String
  | .int _ => some "int"
  | .str _ => some "str"
  | .lst _ => some "list"
  | .tup _ => some "tuple"
  | _ => none
def dIsTy : List D → M → Prop
  | [d, .ty T], z => d.tyN = some T ∧ z = .fz (.bl true)
  | _, _ => False
theorem cd_isTy : CallD K RZ.rIsTy dIsTy := by
  intro F H xs ms z Q sb ov hz k
  cases ov with
  | nil => exact hz.elim
  | @cons x1 m1 B1 _ _ a t =>
    cases t with
    | nil => exact hz.elim
    | @cons x2 m2 B2 _ _ b t =>
      cases t with
      | cons _ _ => simp [dIsTy] at hz
      | nil =>
        have z1 := a.view sb
        have z2 := b.view sb
        simp only [List.map_cons, List.map_nil] at hz
        generalize m1.frz = d1 at hz z1
        generalize m2.frz = d2 at hz z2
        cases z2 with
        | ty T =>
          obtain ⟨h1, rfl⟩ := hz
          have t4 : RZ.Ty4 H x1 T := by
            cases z1 with
            | int i => cases h1; exact .int i
            | str x => cases h1; exact .str x
            | lst h r => cases h1; exact .lst h
            | tup h r => cases h1; exact .tup h
            | _ => cases h1
          exact ⟨x1, T, rfl, t4, k _ F H [] Frm.refl sb (.fz (.bl _)) List.nodup_nil⟩
        | _ => exact hz.elim
/-- a built-in type as a value -/
theorem de_ty {x : Str} {T : String} (hg : Gl X x) (hm : X.mg x = none) (hv : bootBuiltins x = some (.type T)) (hn : x ≠ "__name__" := by decide) (hd : (x == ("__debug__" : Str)) = false := by decide) : DE Z X (.Name x pos) (tC (.ty T)) (mC (.ty T)) :=
  ⟨pe_bltn hg hm hv rfl hn hd, .const fun _ => .ty T⟩

/-! ### what is owned is written -/
theorem OwS.mutL {i : Nat} {sl : Slot} {ds : List D} (ow : OwS K F H σ s A) (nd : A.Nodup) (sb : Sub F H) (es : s[i]? = some sl) (em : sl.m? = some (.ml ds)) : ∃ a xs, σ[i]? = some (some (.ref a)) ∧ H a = some (.lst xs) ∧ Fzs K F xs ds ∧
    ∀ xs' ds', Fzs K F xs' ds' → Frm F H A F (upd H a (.lst xs')) A ∧ Sub F (upd H a (.lst xs')) ∧ OwS K F (upd H a (.lst xs')) σ (s.set i (sl.put (.ml ds'))) A := by
  obtain ⟨x, B, C, E, ex, o, hA, kk⟩ := ow.split es em
  cases o with
  | ml nF hH zs =>
    rename_i a xs
    refine ⟨a, xs, ex, hH, zs, fun xs' ds' z' => ?_⟩
    subst hA
    have g : Frm F H [a] F (upd H a (.lst xs')) [a] := Frm.upd hH trivial
    refine ⟨g.more (fun b q => ?_) (fun b hb => .inl hb), sb.upd nF (.inr ⟨_, hH, trivial⟩), kk F _ [a] [a] (.ml ds') [a] g (fun b hb hq => ?_) (.ml nF upd_same z')⟩
    · rw [mem3]; exact .inr (.inl q)
    · rcases List.mem_append.mp hb with p | p
      · exact nd_x (nd_l nd) b p hq
      · exact nd_x nd b (List.mem_append_right _ hq) p
def slotM (s : DSt) (i : Nat) : Option M := match s[i]? with
  | some sl => sl.m?
  | none => none
theorem slotM_at {i : Nat} {m : M} (h : slotM s i = some m) : ∃ sl, s[i]? = some sl ∧ sl.m? = some m := by
  unfold slotM at h
  cases e : s[i]? with
  | none => simp [e] at h
  | some sl => simp [e] at h; exact ⟨sl, rfl, h⟩
def setM (s : DSt) (i : Nat) (m : M) : DSt := s.set i ((s[i]?.getD .un).put m)
/-- x.append(e), x.extend(e), x.pop() .. of an owned list at a name: f gives the list and the value behind it -/
def mApp (i : Nat) (m : TDs) : TD := fun s Q => (∃ ds, slotM s i = some (.ml ds)) ∧ m s fun ws s1 => tvs ws s1 fun ms s2 => ∃ ds y, slotM s2 i = some (.ml ds) ∧ ms = [y] ∧ ds.length < sizeLine ∧ Q (.val (.fz .non)) (setM s2 i (.ml (ds ++ [y.frz])))
theorem Lift.app {i : Nat} {t : TA} {m : TDs} (l : Lifts Z t m) : Lift Z (tBM Z.K "list" rAppend (tVar i) t) (mApp i m) := by
  intro σ H F A s Q Qd R h k
  obtain ⟨⟨ds0, e0⟩, h⟩ := h
  obtain ⟨sl0, es0, em0⟩ := slotM_at e0
  obtain ⟨a0, xs0, ev0, hH0, _⟩ := R.own.mutL R.nd R.sub es0 em0
  refine ⟨.ref a0, ev0, .inl ⟨rfl, xs0, SqL.of hH0⟩, l σ H F A s _ _ R h fun ws s1 vs F1 H1 Av A1 h1 o1 => ?_⟩
  obtain ⟨ms, s2, F2, A2, ⟨ds, y, e2, rfl, hl, q⟩, o⟩ := tvs_fz o1 h1
  obtain ⟨sl, es, em⟩ := slotM_at e2
  obtain ⟨a, xs, ev, hH, zs, kk⟩ := o.own.mutL (by simpa using o.nd) o.sub es em
  rw [ev0] at ev
  cases ev
  have hv := o.fz
  cases hv with
  | @cons v0 _ _ _ zy r =>
    cases r
    have hlen := zs.length
    obtain ⟨g, sb, ow⟩ := kk (xs ++ [v0]) (ds ++ [y.frz]) (zs.append (.cons zy .nil))
    refine ⟨a0, xs, v0, rfl, rfl, hH, by omega, ?_⟩
    have fr : Frm F H A F2 (upd H1 a0 (.lst (xs ++ [v0]))) ([] ++ A2) := Frm.trans0 (A1 := A2) (by simpa using o.fr) (by simpa using g)
    have ow' : OwS Z.K F2 (upd H1 a0 (.lst (xs ++ [v0]))) σ (setM s2 i (.ml (ds ++ [y.frz]))) A2 := by
      unfold setM
      rw [es]
      exact ow
    exact k _ _ _ _ _ [] A2 q ⟨fr, sb, .val (.fz .non), ow', o.nd⟩
theorem de_append {i : Nat} {x : Str} {e : Expr} {t : TA} {m : TDs} {p apos cpos : Pos} (hK : X.K = Z.K) (ha : DA Z X [e] t m) (hN : X.N[i]? = some x := by rfl) (hv : Vis X.env.scope x := by first | exact Or.inl rfl | exact Or.inr (Or.inl rfl) | exact Or.inr (Or.inr rfl)) (hd : (x == ("__debug__" : Str)) = false := by decide) (hcd : (x == ("__classdict__" : Str)) = false := by decide)
    (hbase : attributeBase (.Name x p) "append" X.env (eval (.Name x p) X.env) = eval (.Name x p) X.env := by rfl) (hfew : ((backTo cpos (starEach [e] X.env)).all (fun x => !x.1) && (backToKw cpos (keywordEach [] X.env)).all (fun x => x.1.isSome) && decide (([e] : List Expr).length + ([] : List Keyword).length + (if ([] : List Keyword).isEmpty then 0 else 1) < 30)) = true := by rfl) (hline : (apos.endLine == cpos.line) = true := by rfl) (hs : starEach [e] X.env = (false, eval e X.env) :: starEach [] X.env := by rfl) :
    DE Z X (.Call (.Attribute (.Name x p) "append" apos) [e] [] cpos) (tBM Z.K "list" rAppend (tVar i) t) (mApp i m) :=
  ⟨by rw [← hK]; exact pe_bm PySem.F.plainAttrs_list PySem.F.slot_list_append PySem.F.type_list_append mt_append (pv i hN hv hd hcd) ha.pa hbase hfew hline hs, .app ha.lf⟩
end
end DL

namespace DL
open PySem PySem.Spec L2

/-! ### the defs of the text -/
/-- a def as the top has left it -/
def TopFn (K : PySem.W.Frag) (mg : Str → Option Value) (x : Str) (st : Stmt) (ps : List Str) : Prop :=
  ∃ (f : Addr) (fd : FuncData), Fun K x x st f fd ∧ mg x = some (.ref f) ∧ ∀ us : List Value, us.length = ps.length → bindArgs fd ⟨us, []⟩ = pure (ps.zip us)
theorem topFn_mk {K : PySem.W.Frag} {h : Heap} {mg : Str → Option Value} {x : Str} {st : Stmt} {ps : List Str} {f : Addr} {oc : Value} {od an : Option Addr} {osl : Array (Option Value)} {kV doc pm cdv ct : Value} (X : K.In h) (G : h.Ns mainGlobals mg)
    (a : PySem.W.nsIn K mainGlobals x = some (some (.ref f))) (l : K.lookup f = some ⟨oc, od, .func (PySem.W.fnOf x x (defArgs st) (defBody st) (defScope st) .none kV doc pm an cdv ct), osl⟩) (c : PySem.W.codeIn K cdv x = true) (k : PySem.W.keepIn K (.ref f) = true)
    (hb : ∀ (kV doc pm : Value) (an : Option Addr) (cdv ct : Value) (us : List Value), us.length = ps.length → bindArgs (PySem.W.fnOf x x (defArgs st) (defBody st) (defScope st) .none kV doc pm an cdv ct) ⟨us, []⟩ = pure (ps.zip us)) : TopFn K mg x st ps :=
  ⟨f, _, fun_mk l c k, PySem.W.mg_of X G a, hb _ _ _ _ _ _⟩
/-- a def that keeps a contract -/
def FnAt (P : Program) (w : World) (K : PySem.W.Frag) (mg : Str → Option Value) (base : Heap) (T : List (Addr × Str)) (k : Nat) (x : Str) (ps : List Str) (io : Bool) (c : CT) : Prop :=
  ∃ (f : Addr) (fd : FuncData), FnOk P w K mg base (L2.CX P w) k f fd ps (spD K T io c) ∧ mg x = some (.ref f) ∧ PySem.W.keepIn K (.ref f) = true ∧ Binds K fd ps [] ∧ ∃ st, Fun K x x st f fd
section
variable {P : Program} {w : World} {K : PySem.W.Frag} {mg : Str → Option Value} {base : Heap}
theorem fnAt {x : Str} {st : Stmt} {N ps : List Str} {k : Nat} {io : Bool} {c : CT} {T : List (Addr × Str)} (Tf : TopFn K mg x st ps) (S : FnScope N ps (defScope st)) (hlen : ∀ ms R X, c ms R X → ms.length = ps.length) (hio : io = true → 0 < ps.length)
    (hbody : ∀ (f : Addr) (cdv : Value) (A : Around) (outer : List Env) (s : Shared) (H : Hp) (E : XK) (x0 : V) (Xd : Value → Pay → List M → Prop), Room k (A.deeper (PyProof.Rows.envOfC x (defScope st) s.heap.objs.size f cdv)) →
      ∃ t m, DSs ⟨K, fun cls d _ H' => E cls d H', fun cls pl s' => fin io x0 s' (Xd cls pl), T⟩ (cxOf (L2.CX P w) P w K mg base N x (defScope st) f cdv A outer s H E) (defBody st) t m ∧
        ∀ ms Rd, c ms Rd Xd → m ⟨fun s' => fin io x0 s' (Rd (.fz .non)), fun r s' => fin io x0 s' (Rd r), fun _ => False, fun _ => False⟩ (startD io x0 ms N.length)) :
    FnAt P w K mg base T (k + 1) x ps io c := by
  obtain ⟨f, fd, Fn, hm, hb⟩ := Tf
  exact ⟨f, fd, fn_ok Fn S hlen hio (fun cdv _ => hbody f cdv), hm, Fn.kp, .all hb, _, Fn⟩
/-- as TopFn, with its code object -/
def TopFnC (K : PySem.W.Frag) (mg : Str → Option Value) (x : Str) (st : Stmt) (ps : List Str) (c : Addr) : Prop :=
  ∃ (f : Addr) (fd : FuncData), Fun K x x st f fd ∧ mg x = some (.ref f) ∧ (∀ us : List Value, us.length = ps.length → bindArgs fd ⟨us, []⟩ = pure (ps.zip us)) ∧ fd.code = .ref c
/-- a def with lambdas: its code object is told -/
theorem fnAtC {x : Str} {st : Stmt} {N ps : List Str} {k : Nat} {io : Bool} {c : CT} {T : List (Addr × Str)} {cL : Addr} (Tf : TopFnC K mg x st ps cL) (S : FnScope N ps (defScope st)) (hlen : ∀ ms R X, c ms R X → ms.length = ps.length) (hio : io = true → 0 < ps.length)
    (hbody : ∀ (f : Addr) (A : Around) (outer : List Env) (s : Shared) (H : Hp) (E : XK) (x0 : V) (Xd : Value → Pay → List M → Prop), Room k (A.deeper (PyProof.Rows.envOfC x (defScope st) s.heap.objs.size f (.ref cL))) →
      ∃ t m, DSs ⟨K, fun cls d _ H' => E cls d H', fun cls pl s' => fin io x0 s' (Xd cls pl), T⟩ (cxOf (L2.CX P w) P w K mg base N x (defScope st) f (.ref cL) A outer s H E) (defBody st) t m ∧
        ∀ ms Rd, c ms Rd Xd → m ⟨fun s' => fin io x0 s' (Rd (.fz .non)), fun r s' => fin io x0 s' (Rd r), fun _ => False, fun _ => False⟩ (startD io x0 ms N.length)) :
    FnAt P w K mg base T (k + 1) x ps io c := by
  obtain ⟨f, fd, Fn, hm, hb, hcd⟩ := Tf
  refine ⟨f, fd, fn_ok Fn S hlen hio (fun cdv h => ?_), hm, Fn.kp, .all hb, _, Fn⟩
  rw [hcd] at h
  subst h
  exact hbody f
/-- a def that is never called -/
theorem fnAt_never {x : Str} {st : Stmt} {ps : List Str} {k : Nat} {io : Bool} {T : List (Addr × Str)} (Tf : TopFn K mg x st ps) : FnAt P w K mg base T k x ps io (fun _ _ _ => False) := by
  obtain ⟨f, fd, Fn, hm, hb⟩ := Tf
  exact ⟨f, fd, ⟨fun vs H Q E h => (by obtain ⟨_, _, _, _, _, _, _, _, _, hc, _⟩ := h; exact hc.elim), fun A outer s H args us vs Q E _ _ _ _ h => (by obtain ⟨_, _, _, _, _, _, _, _, _, hc, _⟩ := h; exact hc.elim)⟩, hm, Fn.kp, .all hb, _, Fn⟩
theorem Fun.same {x y : Str} {st st' : Stmt} {f : Addr} {fd fd' : FuncData} (a : Fun K x x st f fd) (b : Fun K y y st' f fd') : fd = fd' := by
  obtain ⟨oc, od, kV, doc, pm, an, cdv, ct, osl, e, l, c⟩ := a.ex
  obtain ⟨oc', od', kV', doc', pm', an', cdv', ct', osl', e', l', c'⟩ := b.ex
  rw [l] at l'
  cases l'
  rfl
/-- the law's own def -/
theorem law_fd {st : Stmt} {fa : Addr} {k : Nat} {c : CT} {x : Str} {T : List (Addr × Str)} (Tf : TopFn K mg "law" st [x]) (hfa : mg "law" = some (.ref fa)) (G : ∀ base : Heap, K.In base → base.Ns mainGlobals mg → FnAt P w K mg base T k "law" [x] false c) :
    ∃ fd : FuncData, (∀ (s : Shared) (v : Value), BindsTo s fd ⟨[v], []⟩ [(x, v)]) ∧ ∀ base : Heap, K.In base → base.Ns mainGlobals mg → FnOk P w K mg base (L2.CX P w) k fa fd [x] (spD K T false c) := by
  obtain ⟨f, fd, Fn, hm, hb⟩ := Tf
  rw [hfa] at hm
  cases hm
  refine ⟨fd, fun s v => .of_eq (hb [v] rfl), fun base hK hN => ?_⟩
  obtain ⟨f', fd', ok, hm', _, _, st', Fn'⟩ := G base hK hN
  rw [hfa] at hm'
  cases hm'
  rw [Fun.same Fn Fn']
  exact ok
theorem passD {qual : Str} {scope : Scope} {N : List Str} {f : Addr} {cdv : Value} {A : Around} {outer : List Env} {s : Shared} {H : Hp} {E : XK} :
    PassesOwn (model P w) (cxOf (L2.CX P w) P w K mg base N qual scope f cdv A outer s H E).A (cxOf (L2.CX P w) P w K mg base N qual scope f cdv A outer s H E).env (cxOf (L2.CX P w) P w K mg base N qual scope f cdv A outer s H E).xe :=
  passes_of (X := cxOf (L2.CX P w) P w K mg base N qual scope f cdv A outer s H E) rfl
end
section
variable {Z : ZX} {X : Cx} {pos : Pos}
theorem de_callN {c : CT} {k : Nat} {ps : List Str} {x : Str} {p : Pos} {e : Expr} {es : List Expr} {t : TA} {m : TDs} (Fn : FnAt X.prog X.w X.K X.mg X.base Z.T k x ps false c) (hr : Room k X.A) (hg : Gl X x) (hK : X.K = Z.K) (tk : Takes X Z.W) (ha : DA Z X (e :: es) t m) (hdb : (x == ("__debug__" : Str)) = false := by decide) (he : starEach (e :: es) X.env = (false, eval e X.env) :: starEach es X.env := by rfl) (hpl : (backTo pos (starEach es X.env)).any (·.1) = false := by rfl) : DE Z X (.Call (.Name x p) (e :: es) [] pos) (tCallS (spD Z.K Z.T false c) (WE Z.W) t) (mCall Z.D c m) := by
  obtain ⟨f, fd, F, hm, hk, hb, _⟩ := Fn
  exact de_call (by rw [← hK]; exact F) hr hg hm hk hb tk ha hdb he hpl
theorem de_callION {c : CT} {k : Nat} {ps : List Str} {x : Str} {p : Pos} {e : Expr} {es : List Expr} {t : TA} {m : TDs} (Fn : FnAt X.prog X.w X.K X.mg X.base Z.T k x ps true c) (hr : Room k X.A) (hg : Gl X x) (hK : X.K = Z.K) (tk : Takes X Z.W) (ha : DA Z X (e :: es) t m) (hdb : (x == ("__debug__" : Str)) = false := by decide) (he : starEach (e :: es) X.env = (false, eval e X.env) :: starEach es X.env := by rfl) (hpl : (backTo pos (starEach es X.env)).any (·.1) = false := by rfl) : DE Z X (.Call (.Name x p) (e :: es) [] pos) (tCallS (spD Z.K Z.T true c) (WE Z.W) t) (mCallIO Z.D c m) := by
  obtain ⟨f, fd, F, hm, hk, hb, _⟩ := Fn
  exact de_callIO (by rw [← hK]; exact F) hr hg hm hk hb tk ha hdb he hpl
/-- a module's constant -/
theorem de_gint {x : Str} {i : Int} (h : ∃ t, X.mg x = some (.int i t)) (hg : Gl X x := by rfl) (hd : (x == ("__debug__" : Str)) = false := by decide) : DE Z X (.Name x pos) (tC (.int i)) (mC (.int i)) := by
  obtain ⟨t, h⟩ := h
  exact de_glob hg h ⟨t, rfl⟩ (fun _ => .int i) hd
theorem de_gstr {x : Str} {i : Str} (h : ∃ t, X.mg x = some (.str i t)) (hg : Gl X x := by rfl) (hd : (x == ("__debug__" : Str)) = false := by decide) : DE Z X (.Name x pos) (tC (.str i)) (mC (.str i)) := by
  obtain ⟨t, h⟩ := h
  exact de_glob hg h ⟨t, rfl⟩ (fun _ => .str i) hd
theorem hu64 {k : Nat} (hr : Room k X.A) : X.A.units + 64 < cLine := hr.units
theorem hu1 {k : Nat} (hr : Room k X.A) : X.A.units + 1 < cLine := hu_of hr

/-- -a -/
def mUn (f : D → M → Prop) (m : TD) : TD := fun s Q => m s fun w s' => ∃ x z, res s' w = some x ∧ f x z ∧ Q (.val z) s'
def dNeg : D → M → Prop
  | .int i, z => z = .fz (.int (-i))
  | _, _ => False
theorem Lift.neg {t : TE} {m : TD} (l : Lift Z t m) : Lift Z (tUn (rU fun i => .int (-i)) t) (mUn dNeg m) := by
  intro σ H F A s Q Qd R h k
  refine l σ H F A s _ _ R h fun w s1 v F1 H1 Av A1 h1 o1 => ?_
  obtain ⟨x, z, e, hz, q⟩ := h1
  have zv := o1.wow.view o1.sub o1.own e
  cases zv with
  | int i => cases hz; exact ⟨i, rfl, k _ _ _ _ _ _ _ q (o1.flat (.int _))⟩
  | _ => exact hz.elim
theorem de_neg {a : Expr} {t : TE} {m : TD} (h : DE Z X a t m) : DE Z X (.UnaryOp .USub a pos) (tUn (rU fun i => .int (-i)) t) (mUn dNeg m) := ⟨pe_un un_neg h.pe, .neg h.lf⟩

/-- a, b = x, y (two local names) -/
def mPar (i j : Nat) (m : TDs) : TSd := fun D s => m s fun ws s1 => tvs ws s1 fun ms s2 => ∃ y z, ms = [y, z] ∧ gNm i y s2 fun s3 => gNm j z s3 D.nx
theorem LiftS.par {i j : Nat} {t : TA} {m : TDs} (l : Lifts Z t m) : LiftS Z (tPar i j t) (mPar i j m) := by
  intro σ H F A s D Dd R h e
  refine l σ H F A s _ _ R h fun ws s1 vs F1 H1 Av A1 h1 o1 => ?_
  obtain ⟨ms, s2, F2, B2, A2, ⟨y, z, rfl, q⟩, f2, sb2, ol, ow2, n2, hB, hA⟩ := tvs_ok o1.wow o1.sub o1.own o1.nd h1
  cases ol with
  | @cons v1 _ _ _ C1 _ w1 r =>
    cases r with
    | @cons v2 _ _ _ C2 _ w2 r =>
      cases r
      have f12 := o1.fr.trans0 f2
      refine ⟨v1, v2, rfl, ?_⟩
      have n2' : (C1 ++ (C2 ++ A2)).Nodup := by simpa using n2
      have nd1 : (C1 ++ A2).Nodup := nd_mk (nd_l n2') (nd_r n2) fun a ha hb => nd_x n2' a ha (List.mem_append_right _ hb)
      refine LiftG.name (Z := Z) σ H1 F2 C1 A2 s2 v1 y (fun σ' H' => D.nx (σ'.set j (some v2)) H') _ sb2 w1 ow2 nd1 q fun σ' s3 F3 H3 A3 q3 f3 sb3 ow3 nd3 => ?_
      have hx2 : ∀ a ∈ C2, a ∉ C1 ++ A2 := fun a ha hb => by
        rcases List.mem_append.mp hb with p | p
        · exact nd_x n2' a p (List.mem_append_left _ ha)
        · exact nd_x (nd_r n2') a ha p
      have w2' := w2.keep f3 hx2
      have nd23 : (C2 ++ A3).Nodup := nd_mk (nd_l (nd_r n2')) nd3 (apart (fun a h => (w2.out a h).2) hx2 f3)
      have f13 : Frm F H A F3 H3 (C2 ++ A3) := by
        refine Frm.trans (B := C2) (A1 := C1 ++ A2) (f12.weak fun a ha => ?_) f3
        simp at ha ⊢
        rcases ha with p | p | p <;> simp [p]
      exact LiftG.name (Z := Z) σ' H3 F3 C2 A3 s3 v2 z D.nx _ sb3 w2' ow3 nd23 q3 fun σ4 s4 F4 H4 A4 q4 f4 sb4 ow4 nd4 => e.nx σ4 s4 F4 H4 A4 (f13.trans0 f4) sb4 ow4 nd4 q4
theorem ds_par {i j : Nat} {x y : Str} {a b : Expr} {t : TA} {m : TDs} {px py pt : Pos} {kt k2 pt2} (hc : X.calm = true) (hN : X.N.Nodup) (hi : X.N[i]? = some x) (hj : X.N[j]? = some y) (hij : i ≠ j) (hx : X.env.scope.names.lookup x = some .local) (hy : X.env.scope.names.lookup y = some .local) (ha : DA Z X [a, b] t m) (hw : swappedStores [.Tuple [.Name x px, .Name y py] kt pt] (.Tuple [a, b] k2 pt2) X.env = pure (some [x, y]) := by rfl) (hs : swapsWithSole [.Tuple [.Name x px, .Name y py] kt pt] (.Tuple [a, b] k2 pt2) pos.line X.env = pure false := by rfl) : DS Z X (.Assign [.Tuple [.Name x px, .Name y py] kt pt] (.Tuple [a, b] k2 pt2) pos) (tPar i j t) (mPar i j m) :=
  ⟨ps_par hc hN hi hj hij hx hy ha.pa hw hs, .par ha.lf⟩
end
theorem bo_abs : bootBuiltins "abs" = some (.builtin "abs") := by decide +kernel
theorem bo_int : bootBuiltins "int" = some (.type "int") := by decide +kernel
theorem bo_str : bootBuiltins "str" = some (.type "str") := by decide +kernel
theorem bo_len : bootBuiltins "len" = some (.builtin "len") := by decide +kernel
theorem bo_list : bootBuiltins "list" = some (.type "list") := by decide +kernel
theorem bo_tuple : bootBuiltins "tuple" = some (.type "tuple") := by decide +kernel
theorem bo_isinstance : bootBuiltins "isinstance" = some (.builtin "isinstance") := by decide +kernel
theorem bo_sorted : bootBuiltins "sorted" = some (.builtin "sorted") := by decide +kernel
/-- what a law is called with -/
theorem law_sp {K : PySem.W.Frag} {H : Hp} {a : Addr} {ns : List Int} {c : CT} (hn : ∀ a ps, H a ≠ some (.tbl ps)) (hS : SqL K H a (ns.map V.int)) (hc : ∀ (R : M → List M → Prop) (X : Value → Pay → List M → Prop), R (.fz (.bl true)) [] → c [.fz (.scr ns)] R X) : spD K [] false c [.ref a] H (fun v _ => v = .bl true) fun _ _ _ => False := by
  refine ⟨H, [], [.fz (.scr ns)], fun r _ => r = .fz (.bl true), fun _ _ _ => False, ⟨(fun _ h => nomatch h), fun a ps e => absurd e (hn a ps)⟩, Sub.refl H, .cons (A1 := []) (A2 := []) (.fz (.scr hS)) .nil, List.nodup_nil, hc _ _ rfl, ?_, fun _ _ _ _ _ _ _ h => h.elim⟩
  rintro r ms' v F' H' Av A' rfl - - ow - -
  cases ow with
  | fz z => cases z; rfl
theorem law_walk {l : PySem.W.OpenLaw} {q : Program} {loose : List Str} {XP : (Str → Option Value) → Heap → Prop} {YP : World → Heap → Prop} {d : DefRec} {K : Params → PySem.W.Frag} {x : Str} {c : CT} {k : Nat} (hn : l.most = some 63) (hdf : d.params.defaults = []) (hr : Room k callerA)
    (hc : ∀ (ns : List Int) (R : M → List M → Prop) (X : Value → Pay → List M → Prop), ns.length ≤ 63 → R (.fz (.bl true)) [] → c [.fz (.scr ns)] R X)
    (hY : ∀ (w : World) (h : Heap), YP w h → (K w.params).In h)
    (F : ∀ (w : World) (mg : Str → Option Value) (fa : Addr) (h : Heap), (K w.params).In h → h.Ns mainGlobals mg → mg d.name = some (.ref fa) →
      ∃ fd : FuncData, (∀ (s : Shared) (u : Value), BindsTo s fd ⟨[u], []⟩ [(x, u)]) ∧ ∀ base : Heap, (K w.params).In base → base.Ns mainGlobals mg → FnOk l.prog w (K w.params) mg base (L2.CX l.prog w) k fa fd [x] (spD (K w.params) [] false c)) :
    PySem.W.WalkO q loose XP YP l.row.toRowW d [] (fun f vs => PySem.call f vs) :=
  L2.walk_of (n := 63) (k := k) (x := x) (CX := fun w => L2.CX l.prog w) (sp := fun w => spD (K w.params) [] false c) hn (by decide) hdf hr hY F (fun _ H a ns hl hO hS => law_sp (fun b ps e => by rcases hO b with q | ⟨o, xs, q⟩ <;> rw [q] at e <;> cases e) hS fun R X h => hc ns R X hl h) fun _ _ _ _ _ z => by
    obtain ⟨_, _, _, _, _, _, _, _, _, _, _, _, h⟩ := z
    exact h
end DL

namespace DL
open PySem PySem.Spec L2

/-! ### a reading walked by simp: no lambda is entered before its argument stands -/
inductive Lock {α : Type} (k : α) : Type
  | mk
/-- a branch -/
def br (b : Bool) (M : DSt → Prop) (l : Lock M) (N : DSt → Prop) (r : Lock N) (s : DSt) : Prop := if b = true then M s else N s
theorem br_t {M N : DSt → Prop} {l r} {s : DSt} : br true M l N r s = M s := by simp [br]
theorem br_f {M N : DSt → Prop} {l r} {s : DSt} : br false M l N r s = N s := by simp [br]
theorem br_of {b : Bool} {M N : DSt → Prop} {l r} {s : DSt} (h1 : b = true → M s) (h2 : b = false → N s) : br b M l N r s := by
  cases b
  · exact h2 rfl
  · exact h1 rfl
theorem br_dec {p : Prop} [Decidable p] {M N : DSt → Prop} {l r} {s : DSt} (h1 : p → M s) (h2 : ¬ p → N s) : br (decide p) M l N r s := br_of (fun h => h1 (by simpa using h)) (fun h => h2 (by simpa using h))
theorem br_ndec {p : Prop} [Decidable p] {M N : DSt → Prop} {l r} {s : DSt} (h1 : ¬ p → M s) (h2 : p → N s) : br (!decide p) M l N r s := br_of (fun h => h1 (by simpa using h)) (fun h => h2 (by simpa using h))
/-- something that must stand -/
def wD {α : Type} (o : Option α) (k : α → Prop) (l : Lock k) : Prop := match o with
  | some x => k x
  | none => False
theorem wD_some {α : Type} {x : α} {k : α → Prop} {l} : wD (some x) k l = k x := rfl
theorem wD_eq {α : Type} {o : Option α} {k : α → Prop} {l} : (∃ x, o = some x ∧ k x) = wD o k l := by
  cases o <;> simp [wD]
theorem wD_of {α : Type} {o : Option α} {k : α → Prop} {l} {x : α} (h : o = some x) (q : k x) : wD o k l := by subst h; exact q
/-- an operation's outcome -/
def opz (p : M → Prop) (k : M → Prop) (l : Lock k) : Prop := ∃ z, p z ∧ k z
theorem opz_eq {p k : M → Prop} {l} : (∃ z, p z ∧ k z) = opz p k l := rfl
theorem opz_one {p k : M → Prop} {l} (z : M) (h : p = fun y => y = z) : opz p k l = k z := by subst h; simp [opz]
theorem opz_and {p k : M → Prop} {l} {C : Prop} (z : M) (h : p = fun y => C ∧ y = z) : opz p k l = (C ∧ k z) := by subst h; simp [opz, and_assoc]
theorem opz_of {p k : M → Prop} {l} {z : M} (h : p z) (q : k z) : opz p k l := ⟨z, h, q⟩
def opb (p : M → Prop) (k : Bool → Prop) (l : Lock k) : Prop := ∃ z : Bool, p (.fz (.bl z)) ∧ k z
theorem opb_one {p : M → Prop} {k : Bool → Prop} {l} (z : Bool) (h : p = fun y => y = .fz (.bl z)) : opb p k l = k z := by subst h; simp [opb]
theorem opb_and {p : M → Prop} {k : Bool → Prop} {l} {C : Prop} (z : Bool) (h : p = fun y => C ∧ y = .fz (.bl z)) : opb p k l = (C ∧ k z) := by subst h; simp [opb, and_assoc]
theorem opb_of {p : M → Prop} {k : Bool → Prop} {l} (z : Bool) (h : p (.fz (.bl z))) (q : k z) : opb p k l := ⟨z, h, q⟩
def trz (x : D) (k : Bool → Prop) (l : Lock k) : Prop := ∃ b, x.truth b ∧ k b
def got (sl : Slot) (p : Prop) : Prop := match sl with
  | .un => False
  | .v _ => p
  | .p _ _ => p
def gset (sl : Slot) (p : Prop) : Prop := match sl with
  | .un => p
  | .v _ => p
  | .p _ _ => False
def vslot (sl : Slot) (k : M → Prop) (l : Lock k) : Prop := match sl with
  | .v m => k m
  | _ => False
def fslot (sl : Slot) (k : D → Prop) (l : Lock k) : Prop := match sl with
  | .v (.fz x) => k x
  | _ => False
def asB (x : D) (k : Bool → Prop) (l : Lock k) : Prop := match x with
  | .bl b => k b
  | _ => False
def asI (x : D) (k : Int → Prop) (l : Lock k) : Prop := match x with
  | .int b => k b
  | _ => False
def asT (x : D) (k : List D → Prop) (l : Lock k) : Prop := match x with
  | .tup b => k b
  | _ => False
def asL (x : M) (k : List D → Prop) (l : Lock k) : Prop := match x with
  | .ml b => k b
  | _ => False
def hasL (x : Option M) : Prop := match x with
  | some (.ml _) => True
  | _ => False
def one {α : Type} (x : List α) (k : α → Prop) (l : Lock k) : Prop := match x with
  | [a] => k a
  | _ => False
def two {α : Type} (x : List α) (k : α → α → Prop) (l : Lock k) : Prop := match x with
  | [a, b] => k a b
  | _ => False
def int1 (x : List D) (k : Int → Prop) (l : Lock k) : Prop := match x with
  | [.int a] => k a
  | _ => False
def int2 (x : List D) (k : Int → Int → Prop) (l : Lock k) : Prop := match x with
  | [.int a, .int b] => k a b
  | _ => False
theorem got_v {m : M} {p : Prop} : got (.v m) p = p := rfl
theorem got_p {x : V} {m : M} {p : Prop} : got (.p x m) p = p := rfl
theorem gset_un {p : Prop} : gset .un p = p := rfl
theorem gset_v {m : M} {p : Prop} : gset (.v m) p = p := rfl
theorem gset_free {sl : Slot} {p : Prop} (h : sl.pinned = false) : gset sl p = p := by
  cases sl with
  | p _ _ => cases h
  | _ => rfl
theorem vslot_v {m : M} {k : M → Prop} {l} : vslot (.v m) k l = k m := rfl
theorem fslot_v {d : D} {k : D → Prop} {l} : fslot (.v (.fz d)) k l = k d := rfl
theorem asB_b {b : Bool} {k : Bool → Prop} {l} : asB (.bl b) k l = k b := rfl
theorem asI_i {b : Int} {k : Int → Prop} {l} : asI (.int b) k l = k b := rfl
theorem asT_t {b : List D} {k : List D → Prop} {l} : asT (.tup b) k l = k b := rfl
theorem asL_l {b : List D} {k : List D → Prop} {l} : asL (.ml b) k l = k b := rfl
theorem hasL_l {b : List D} : hasL (some (.ml b)) = True := rfl
theorem one_1 {α : Type} {a : α} {k : α → Prop} {l} : one [a] k l = k a := rfl
theorem two_2 {α : Type} {a b : α} {k : α → α → Prop} {l} : two [a, b] k l = k a b := rfl
theorem int1_1 {a : Int} {k : Int → Prop} {l} : int1 [.int a] k l = k a := rfl
theorem int2_2 {a b : Int} {k : Int → Int → Prop} {l} : int2 [.int a, .int b] k l = k a b := rfl
section
variable {s : DSt} {i j n : Nat} {ma mb mc m m' : TD} {ms : TDs} {f f' : D → D → M → Prop} {D0 : DEnds} {c c' : TTd} {a b : TSd} {g : TGd} {gs : TGds}
theorem s_var {Q} : mVar i s Q = wD s[i]? (fun sl => got sl (Q (.slot i) s)) .mk := by
  unfold mVar wD
  cases s[i]? with
  | none => rfl
  | some sl => cases sl <;> rfl
theorem s_c {d : D} {Q} : mC d s Q = Q (.val (.fz d)) s := rfl
theorem op2_eq {ox oy : Option D} {Q : M → Prop} : (∃ x y z, ox = some x ∧ oy = some y ∧ f x y z ∧ Q z) = wD ox (fun x => wD oy (fun y => opz (f x y) Q .mk) .mk) .mk := by
  cases ox <;> cases oy <;> simp [wD, opz]
theorem op1_eq {α : Type} {ox : Option α} {h : α → M → Prop} {Q : M → Prop} : (∃ x z, ox = some x ∧ h x z ∧ Q z) = wD ox (fun x => opz (h x) Q .mk) .mk := by
  cases ox <;> simp [wD, opz]
theorem s_op {Q} : mOp f ma mb s Q = ma s fun wa s1 => mb s1 fun wb s2 => wD (res s2 wa) (fun x => wD (res s2 wb) (fun y => opz (f x y) (fun z => Q (.val z) s2) .mk) .mk) .mk := by
  unfold mOp
  simp only [op2_eq]
theorem isB_eq {ox : Option D} {Q : Bool → Prop} : (∃ b, ox = some (.bl b) ∧ Q b) = wD ox (fun x => asB x Q .mk) .mk := by
  cases ox with
  | none => simp [wD]
  | some x => cases x <;> simp [wD, asB]
theorem isI_eq {ox : Option D} {Q : Int → Prop} : (∃ b, ox = some (.int b) ∧ Q b) = wD ox (fun x => asI x Q .mk) .mk := by
  cases ox with
  | none => simp [wD]
  | some x => cases x <;> simp [wD, asI]
theorem isL_eq {ox : Option M} {Q : List D → Prop} : (∃ b, ox = some (.ml b) ∧ Q b) = wD ox (fun x => asL x Q .mk) .mk := by
  cases ox with
  | none => simp [wD]
  | some x => cases x <;> simp [wD, asL]
theorem hasL_eq {ox : Option M} : (∃ b, ox = some (.ml b)) = hasL ox := by
  cases ox with
  | none => simp [hasL]
  | some x => cases x <;> simp [hasL]
theorem s_test {Q} : mTest m s Q = m s fun w s' => wD (res s' w) (fun x => asB x (fun b => Q b s') .mk) .mk := by
  unfold mTest
  simp only [isB_eq]
theorem s_truth {Q} : mTruth m s Q = m s fun w s' => wD (res s' w) (fun x => trz x (fun b => Q b s') .mk) .mk := by
  have : ∀ (w : W) (s' : DSt), (∃ x b, res s' w = some x ∧ x.truth b ∧ Q b s') = wD (res s' w) (fun x => trz x (fun b => Q b s') .mk) .mk := by
    intro w s'
    cases res s' w <;> simp [wD, trz]
  unfold mTruth
  simp only [this]
theorem s_chain {Q} : mChain f f' ma mb mc s Q = ma s fun wa s1 => mb s1 fun wb s2 => wD (res s2 wa) (fun x => wD (res s2 wb) (fun y => opb (f x y) (fun z =>
    br z (fun s2 => mc s2 fun wc s3 => wD (res s3 wb) (fun x => wD (res s3 wc) (fun y => opz (f' x y) (fun z => Q (.val z) s3) .mk) .mk) .mk) .mk (fun s2 => Q (.val (.fz (.bl false))) s2) .mk s2) .mk) .mk) .mk := by
  have h1 : ∀ (wa wb : W) (s2 : DSt) (R : Bool → Prop), (∃ x y z, res s2 wa = some x ∧ res s2 wb = some y ∧ f x y (.fz (.bl z)) ∧ R z) = wD (res s2 wa) (fun x => wD (res s2 wb) (fun y => opb (f x y) R .mk) .mk) .mk := by
    intro wa wb s2 R
    cases res s2 wa <;> cases res s2 wb <;> simp [wD, opb]
  unfold mChain
  simp only [h1, op2_eq, br]
theorem s_and {Q} : mAnd c c' s Q = c s fun x s1 => br x (fun s1 => c' s1 Q) .mk (fun s1 => Q false s1) .mk s1 := rfl
theorem s_or {Q} : mOr c c' s Q = c s fun x s1 => br x (fun s1 => Q true s1) .mk (fun s1 => c' s1 Q) .mk s1 := rfl
theorem s_not {Q} : mNot c s Q = c s fun x s1 => Q (!x) s1 := rfl
theorem s_andV {Q} : mAndV ma mb s Q = ma s fun w s1 => wD (res s1 w) (fun x => asB x (fun c => br c (fun s1 => mb s1 Q) .mk (fun s1 => Q (.val (.fz (.bl false))) s1) .mk s1) .mk) .mk := by
  unfold mAndV
  simp only [isB_eq, br]
theorem s_orV {Q} : mOrV ma mb s Q = ma s fun w s1 => wD (res s1 w) (fun x => asB x (fun c => br c (fun s1 => Q (.val (.fz (.bl true))) s1) .mk (fun s1 => mb s1 Q) .mk s1) .mk) .mk := by
  unfold mOrV
  simp only [isB_eq, br]
theorem s_notV {Q} : mNotV ma s Q = ma s fun w s1 => wD (res s1 w) (fun x => asB x (fun c => Q (.val (.fz (.bl (!c)))) s1) .mk) .mk := by
  unfold mNotV
  simp only [isB_eq]
theorem s_if {Q} : mIf c ma mb s Q = c s fun x s1 => br x (fun s1 => ma s1 Q) .mk (fun s1 => mb s1 Q) .mk s1 := rfl
theorem s_un {h : D → M → Prop} {Q} : mUn h ma s Q = ma s fun w s' => wD (res s' w) (fun x => opz (h x) (fun z => Q (.val z) s') .mk) .mk := by
  unfold mUn
  simp only [op1_eq]
theorem s_nil {Q} : mNil s Q = Q [] s := rfl
theorem s_cons {Q} : mCons ma ms s Q = ma s fun w s1 => ms s1 fun ws s2 => Q (w :: ws) s2 := rfl
theorem s_cb {h : List D → M → Prop} {Q} : mCB h ms s Q = ms s fun ws s' => wD (resL s' ws) (fun ds => opz (h ds) (fun z => Q (.val z) s') .mk) .mk := by
  unfold mCB
  simp only [op1_eq]
theorem opz_f1 {h : D → M → Prop} {d : D} {k l} : opz (f1 h [d]) k l = opz (h d) k l := rfl
theorem s_call {E : Value → Pay → DSt → Prop} {C : CT} {Q} : mCall E C ms s Q = ms s fun ws s1 => tvs ws s1 fun ms s2 => C ms (fun r _ => Q (.val r) s2) fun cls pl _ => E cls pl s2 := rfl
theorem s_tup {Q} : mTup ms s Q = ms s fun ws s1 => tvs ws s1 fun ms s2 => ms.length ≤ sizeLine ∧ Q (.val (.fz (.tup (ms.map M.frz)))) s2 := rfl
theorem s_lst {Q} : mLst ms s Q = ms s fun ws s1 => tvs ws s1 fun ms s2 => ms.length ≤ sizeLine ∧ Q (.val (.ml (ms.map M.frz))) s2 := rfl
theorem s_nopart {Q} : mNoPart s Q = Q none s := rfl
theorem s_part {Q} : mPart ma s Q = ma s fun w s' => wD (res s' w) (fun x => asI x (fun i => Q (some i) s') .mk) .mk := by
  unfold mPart
  simp only [isI_eq]
theorem s_sl {lo hi : TOd} {Q} : mSl ma lo hi s Q = ma s fun w s1 => lo s1 fun lo s2 => hi s2 fun hi s3 => wD (res s3 w) (fun x => opz (dSl x lo hi) (fun z => Q (.val z) s3) .mk) .mk := by
  have : ∀ (w : W) (lo hi : Option Int) (s' : DSt), (∃ x z, res s' w = some x ∧ dSl x lo hi z ∧ Q (.val z) s') = wD (res s' w) (fun x => opz (dSl x lo hi) (fun z => Q (.val z) s') .mk) .mk := by
    intro w lo hi s'
    cases res s' w <;> simp [wD, opz]
  unfold mSl
  simp only [this]
theorem s_app {Q} : mApp i ms s Q = (hasL (slotM s i) ∧ ms s fun ws s1 => tvs ws s1 fun ms s2 => wD (slotM s2 i) (fun m => asL m (fun ds => one ms (fun y => ds.length < sizeLine ∧ Q (.val (.fz .non)) (setM s2 i (.ml (ds ++ [y.frz])))) .mk) .mk) .mk) := by
  have : ∀ (ms : List M) (s2 : DSt), (∃ ds y, slotM s2 i = some (.ml ds) ∧ ms = [y] ∧ ds.length < sizeLine ∧ Q (.val (.fz .non)) (setM s2 i (.ml (ds ++ [y.frz])))) = wD (slotM s2 i) (fun m => asL m (fun ds => one ms (fun y => ds.length < sizeLine ∧ Q (.val (.fz .non)) (setM s2 i (.ml (ds ++ [y.frz])))) .mk) .mk) .mk := by
    intro ms s2
    cases slotM s2 i with
    | none => simp [wD]
    | some m =>
      cases m with
      | ml ds =>
        cases ms with
        | nil => simp [wD, asL, one]
        | cons y r => cases r <;> simp [wD, asL, one]
      | _ => simp [wD, asL]
  unfold mApp
  simp only [this, hasL_eq]
theorem s_items {R} : mItems ma s R = ma s fun w s1 => tv w s1 fun y s2 => wD y.frz.items (fun ds => R ds s2) .mk := by
  unfold mItems
  have : ∀ (o : Option (List D)) (s2 : DSt), (∃ ds, o = some ds ∧ R ds s2) = wD o (fun ds => R ds s2) .mk := fun o s2 => wD_eq
  simp only [this]
theorem s_rng1 {R} : mRng1 ms s R = ms s fun ws s1 => wD (resL s1 ws) (fun ds => int1 ds (fun j => -(2 ^ 62) ≤ j ∧ j < 2 ^ 62 ∧ R (rng 0 j.toNat) s1) .mk) .mk := by
  have : ∀ (o : Option (List D)) (k : Int → Prop), (∃ j : Int, o = some [.int j] ∧ k j) = wD o (fun ds => int1 ds k .mk) .mk := by
    intro o k
    cases o with
    | none => simp [wD]
    | some ds =>
      cases ds with
      | nil => simp [wD, int1]
      | cons d r =>
        cases r with
        | nil => cases d <;> simp [wD, int1]
        | cons _ _ => cases d <;> simp [wD, int1]
  unfold mRng1
  simp only [this]
theorem s_rng2 {R} : mRng2 ms s R = ms s fun ws s1 => wD (resL s1 ws) (fun ds => int2 ds (fun i j => (-(2 ^ 62) ≤ i ∧ i < 2 ^ 62 ∧ -(2 ^ 62) ≤ j ∧ j < 2 ^ 62) ∧ R (rng i (j - i).toNat) s1) .mk) .mk := by
  have : ∀ (o : Option (List D)) (k : Int → Int → Prop), (∃ i j : Int, o = some [.int i, .int j] ∧ k i j) = wD o (fun ds => int2 ds k .mk) .mk := by
    intro o k
    cases o with
    | none => simp [wD]
    | some ds =>
      cases ds with
      | nil => simp [wD, int2]
      | cons d r =>
        cases r with
        | nil => cases d <;> simp [wD, int2]
        | cons e r =>
          cases r with
          | nil => cases d <;> cases e <;> first | (simp [wD, int2]; done) | exact propext ⟨fun ⟨_, _, e, h⟩ => by cases e; exact h, fun h => ⟨_, _, rfl, h⟩⟩
          | cons _ _ => cases d <;> cases e <;> simp [wD, int2]
  unfold mRng2
  simp only [this]
theorem s_next : mNext D0 s = D0.nx s := rfl
theorem s_seq : mSeq a b D0 s = a { D0 with nx := b D0 } s := rfl
theorem s_break : mBreak D0 s = D0.bk s := rfl
theorem s_cont : mCont D0 s = D0.ct s := rfl
theorem s_drop : mDrop ma D0 s = ma s fun _ s' => D0.nx s' := rfl
theorem s_ret : mRet ma D0 s = ma s fun w s' => rv w s' D0.rt := rfl
theorem s_retN : mRetN D0 s = D0.rt (.fz .non) s := rfl
theorem s_ifS : mIfS c a b D0 s = c s fun x s1 => br x (a D0) .mk (b D0) .mk s1 := rfl
theorem s_asg : mAsg ma g D0 s = ma s fun w s' => tv w s' fun y s2 => g y s2 D0.nx := rfl
theorem s_gNm {y : M} {Q} : gNm i y s Q = wD s[i]? (fun sl => gset sl (Q (s.set i (.v y)))) .mk := by
  unfold gNm wD
  cases s[i]? with
  | none => rfl
  | some sl => cases sl <;> rfl
theorem s_gTup {y : M} {Q} : gTupD n gs y s Q = asT y.frz (fun ds => ds.length = n ∧ gs ds s Q) .mk := by
  have : ∀ (x : D) (k : List D → Prop), (∃ ds, x = .tup ds ∧ k ds) = asT x k .mk := by
    intro x k
    cases x <;> simp [asT]
  unfold gTupD
  simp only [this]
theorem s_gNil {Q} : gNilD [] s Q = Q s := by simp [gNilD]
theorem s_gCons {y : D} {r : List D} {Q} : gConsD g gs (y :: r) s Q = g (.fz y) s fun s' => gs r s' Q := by
  refine propext ⟨?_, fun h => ⟨y, r, rfl, h⟩⟩
  rintro ⟨a, b, e, h⟩
  cases e
  exact h
theorem s_aug : mAug i ma f D0 s = wD s[i]? (fun sl => fslot sl (fun x => ma s fun w s1 => wD (res s1 w) (fun y => opz (f x y) (fun z => gNm i z s1 D0.nx) .mk) .mk) .mk) .mk := by
  have h : ∀ (x : D) (w : W) (s1 : DSt), (∃ y z, res s1 w = some y ∧ f x y z ∧ gNm i z s1 D0.nx) = wD (res s1 w) (fun y => opz (f x y) (fun z => gNm i z s1 D0.nx) .mk) .mk := by
    intro x w s'
    cases res s' w <;> simp [wD, opz]
  unfold mAug wD fslot
  cases s[i]? with
  | none => rfl
  | some sl =>
    cases sl with
    | un => rfl
    | p _ _ => rfl
    | v m =>
      cases m with
      | fz x => simp only [h]; rfl
      | _ => rfl
theorem s_par : mPar i j ms D0 s = ms s fun ws s1 => tvs ws s1 fun ms s2 => two ms (fun y z => gNm i y s2 fun s3 => gNm j z s3 D0.nx) .mk := by
  have : ∀ (ms : List M) (k : M → M → Prop), (∃ y z, ms = [y, z] ∧ k y z) = two ms k .mk := by
    intro ms k
    cases ms with
    | nil => simp [two]
    | cons a r =>
      cases r with
      | nil => simp [two]
      | cons b r =>
        cases r with
        | nil => exact propext ⟨fun ⟨_, _, e, h⟩ => by cases e; exact h, fun h => ⟨_, _, rfl, h⟩⟩
        | cons _ _ => simp [two]
  unfold mPar
  simp only [this]
theorem s_yes {Q} : mYes s Q = Q true s := rfl
theorem s_tvs0 {Q} : tvs [] s Q = Q [] s := rfl
theorem s_tvs1 {w : W} {ws : List W} {Q} : tvs (w :: ws) s Q = tv w s fun m s1 => tvs ws s1 fun ms s2 => Q (m :: ms) s2 := rfl
theorem s_tvV {k : M} {Q} : tv (.val k) s Q = Q k s := rfl
theorem s_tvS {Q} : tv (.slot i) s Q = wD s[i]? (fun sl => vslot sl (fun m => Q (.fz m.frz) (s.set i (.v (.fz m.frz)))) .mk) .mk := by
  have e : tv (.slot i) s Q = match s[i]? with | some (.v m) => Q (.fz m.frz) (s.set i (.v (.fz m.frz))) | _ => False := rfl
  rw [e]
  cases s[i]? with
  | none => rfl
  | some sl => cases sl <;> rfl
theorem s_rvV {k : M} {Q} : rv (.val k) s Q = Q k s := rfl
theorem s_rvS {Q} : rv (.slot i) s Q = wD s[i]? (fun sl => vslot sl (fun m => Q m (s.set i .un)) .mk) .mk := by
  have e : rv (.slot i) s Q = match s[i]? with | some (.v m) => Q m (s.set i .un) | _ => False := rfl
  rw [e]
  cases s[i]? with
  | none => rfl
  | some sl => cases sl <;> rfl
theorem s_resV {k : M} : res s (.val k) = some k.frz := rfl
def Slot.fr? (sl : Slot) : Option D := match sl with
  | .un => none
  | .v m => some m.frz
  | .p _ m => some m.frz
theorem s_resS : res s (.slot i) = (s[i]?).bind Slot.fr? := by
  have e : res s (.slot i) = match s[i]? with | some sl => (match sl.m? with | some m => some m.frz | none => none) | none => none := rfl
  rw [e]
  cases s[i]? with
  | none => rfl
  | some sl => cases sl <;> rfl
theorem s_resL0 : resL s [] = some [] := rfl
theorem s_resL1 {w : W} {ws : List W} : resL s (w :: ws) = (res s w).bind fun d => (resL s ws).map fun ds => d :: ds := by
  simp only [resL]
  cases res s w with
  | none => rfl
  | some d => cases resL s ws <;> rfl
theorem s_slotM : slotM s i = (s[i]?).bind Slot.m? := by
  unfold slotM
  cases s[i]? <;> rfl
theorem s_setM {k : M} : setM s i k = s.set i ((s[i]?.getD .un).put k) := rfl
theorem s_frz {d : D} : (M.fz d).frz = d := rfl
theorem s_frzL {ds : List D} : (M.ml ds).frz = .lst ds := rfl
theorem s_fin0 {x0 : V} {P : List M → Prop} : fin false x0 s P = P [] := rfl

/-! ### the operations' outcomes -/
theorem o_iop {C : Int → Int → Prop} {g : Int → Int → D} {i j : Int} {k l} : opz (iop C g (.int i) (.int j)) k l = (C i j ∧ k (.fz (g i j))) := opz_and _ rfl
theorem b_lt {C : Int → Int → Prop} {g : Int → Int → Bool} {i j : Int} {k l} : opb (iop C (fun i j => .bl (g i j)) (.int i) (.int j)) k l = (C i j ∧ k (g i j)) := opb_and _ rfl
theorem o_addI {i j : Int} {k l} : opz (dAdd (.int i) (.int j)) k l = k (.fz (.int (i + j))) := opz_one _ rfl
theorem o_addS {i j : Str} {k l} : opz (dAdd (.str i) (.str j)) k l = (i.length + j.length ≤ sizeLine ∧ k (.fz (.str (i ++ j)))) := opz_and _ rfl
theorem o_addT {i j : List D} {k l} : opz (dAdd (.tup i) (.tup j)) k l = (i.length + j.length ≤ sizeLine ∧ k (.fz (.tup (i ++ j)))) := opz_and _ rfl
theorem o_addL {i j : List D} {k l} : opz (dAdd (.lst i) (.lst j)) k l = (i.length + j.length ≤ sizeLine ∧ k (.ml (i ++ j))) := opz_and _ rfl
theorem o_mulI {i j : Int} {k l} : opz (dMul (.int i) (.int j)) k l = (CMul i j ∧ k (.fz (.int (i * j)))) := opz_and _ rfl
theorem o_mulT {ds : List D} {j : Int} {k l} : opz (dMul (.tup ds) (.int j)) k l = ((ds ≠ [] ∧ 2 ≤ j ∧ j ≤ 1000 ∧ ds.length ≤ 1000) ∧ k (.fz (.tup (List.replicate j.toNat ds).flatten))) := opz_and _ (by funext z; simp [dMul, and_assoc])
theorem o_mulL {ds : List D} {j : Int} {k l} : opz (dMul (.lst ds) (.int j)) k l = ((-(2 ^ 63) ≤ j ∧ j < 2 ^ 63 ∧ ds.length * j.toNat ≤ sizeLine) ∧ k (.ml (List.replicate j.toNat ds).flatten)) := opz_and _ (by funext z; simp [dMul, and_assoc])
theorem at_eq {α : Type} {o : Option α} {e : α → M} {k l} : opz (fun z => ∃ d, o = some d ∧ z = e d) k l = wD o (fun d => k (e d)) .mk := by
  cases o <;> simp [opz, wD]
theorem o_ixL {ds : List D} {i : Int} {k l} : opz (dIdx (.lst ds) (.int i)) k l = wD (atI ds i) (fun d => k (.fz d)) .mk := at_eq
theorem o_ixT {ds : List D} {i : Int} {k l} : opz (dIdx (.tup ds) (.int i)) k l = wD (atI ds i) (fun d => k (.fz d)) .mk := at_eq
theorem o_ixW {ds : List D} {i : Int} {k l} : opz (dIdx (.wtu ds) (.int i)) k l = wD (atI ds i) (fun d => k (.fz d)) .mk := at_eq
theorem o_ixC {ds : List Int} {i : Int} {k l} : opz (dIdx (.scr ds) (.int i)) k l = wD (atI ds i) (fun d => k (.fz (.int d))) .mk := at_eq
theorem o_ixS {x : Str} {i : Int} {k l} : opz (dIdx (.str x) (.int i)) k l = (x.length ≤ sizeLine ∧ wD (atI x.cps.toList i) (fun d => k (.fz (.str ⟨#[d]⟩))) .mk) := by
  have : opz (dIdx (.str x) (.int i)) k l = opz (fun z => x.length ≤ sizeLine ∧ ∃ c, atI x.cps.toList i = some c ∧ z = .fz (.str ⟨#[c]⟩)) k l := rfl
  rw [this]
  cases atI x.cps.toList i <;> simp [opz, wD, and_assoc]
theorem o_slL {ds : List D} {lo hi : Option Int} {k l} : opz (dSl (.lst ds) lo hi) k l = k (.ml (cutG ds lo hi)) := opz_one _ rfl
theorem o_slT {ds : List D} {lo hi : Option Int} {k l} : opz (dSl (.tup ds) lo hi) k l = k (.fz (.tup (cutG ds lo hi))) := opz_one _ rfl
theorem o_slS {ds : Str} {lo hi : Option Int} {k l} : opz (dSl (.str ds) lo hi) k l = (ds.length ≤ sizeLine ∧ k (.fz (.str (cutS ds lo hi)))) := opz_and _ rfl
theorem o_lenL {ds : List D} {k l} : opz (dLen (.lst ds)) k l = k (.fz (.int ds.length)) := opz_one _ rfl
theorem o_lenT {ds : List D} {k l} : opz (dLen (.tup ds)) k l = k (.fz (.int ds.length)) := opz_one _ rfl
theorem o_lenW {ds : List D} {k l} : opz (dLen (.wtu ds)) k l = k (.fz (.int ds.length)) := opz_one _ rfl
theorem o_lenC {ds : List Int} {k l} : opz (dLen (.scr ds)) k l = k (.fz (.int ds.length)) := opz_one _ rfl
theorem o_lenD {ds : List (Key × D)} {k l} : opz (dLen (.dic ds)) k l = k (.fz (.int ds.length)) := opz_one _ rfl
theorem o_lenS {ds : Str} {k l} : opz (dLen (.str ds)) k l = (ds.length ≤ sizeLine ∧ k (.fz (.int ds.length))) := opz_and _ rfl
theorem o_abs {i : Int} {k l} : opz (dAbs (.int i)) k l = k (.fz (.int (if i < 0 then -i else i))) := opz_one _ rfl
theorem o_intI {i : Int} {k l} : opz (dInt (.int i)) k l = k (.fz (.int i)) := opz_one _ rfl
theorem o_intB {i : Bool} {k l} : opz (dInt (.bl i)) k l = k (.fz (.int (if i then 1 else 0))) := opz_one _ rfl
theorem o_str {i : Int} {k l} : opz (dStr (.int i)) k l = (i.natAbs.log2 < 1920 ∧ k (.fz (.str (toString i)))) := opz_and _ rfl
theorem o_list {d : D} {k l} : opz (dList d) k l = wD d.seqs (fun ds => k (.ml ds)) .mk := at_eq
theorem o_tupL {ds : List D} {k l} : opz (dTuple (.lst ds)) k l = k (.fz (.tup ds)) := opz_one _ rfl
theorem o_tupT {ds : List D} {k l} : opz (dTuple (.tup ds)) k l = k (.fz (.tup ds)) := opz_one _ rfl
theorem o_isN {d : D} {k l} : opz (dIs d .non) k l = k (.fz (.bl (match d with | .non => true | _ => false))) := opz_one _ (by cases d <;> rfl)
theorem o_isNotN {d : D} {k l} : opz (dIsNot d .non) k l = k (.fz (.bl (match d with | .non => false | _ => true))) := opz_one _ (by cases d <;> rfl)
theorem o_isTy {d : D} {T : String} {k l} : opz (dIsTy [d, .ty T]) k l = (d.tyN = some T ∧ k (.fz (.bl true))) := opz_and _ rfl
theorem o_neg {i : Int} {k l} : opz (dNeg (.int i)) k l = k (.fz (.int (-i))) := opz_one _ rfl
theorem t_non {k l} : trz .non k l = k false := by simp [trz, D.truth]
theorem t_bl {b : Bool} {k l} : trz (.bl b) k l = k b := by simp [trz, D.truth]
theorem t_int {b : Int} {k l} : trz (.int b) k l = k (b != 0) := by simp [trz, D.truth]
theorem t_str {b : Str} {k l} : trz (.str b) k l = (b.length ≤ sizeLine ∧ k ((b.length : Int) != 0)) := by simp [trz, D.truth, and_assoc]
theorem t_lst {b : List D} {k l} : trz (.lst b) k l = k (!b.isEmpty) := by simp [trz, D.truth]
theorem t_tup {b : List D} {k l} : trz (.tup b) k l = k (!b.isEmpty) := by simp [trz, D.truth]
theorem t_wtu {b : List D} {k l} : trz (.wtu b) k l = k (!b.isEmpty) := by simp [trz, D.truth]
theorem t_dic {b : List (Key × D)} {k l} : trz (.dic b) k l = k (!b.isEmpty) := by simp [trz, D.truth]
theorem i_lst {b : List D} : D.items (.lst b) = some b := rfl
theorem i_tup {b : List D} : D.items (.tup b) = some b := rfl
theorem i_wtu {b : List D} : D.items (.wtu b) = some b := rfl
theorem i_scr {b : List Int} : D.items (.scr b) = some (b.map D.int) := rfl
theorem i_str {b : Str} : D.items (.str b) = some (chars b) := rfl
/-! ### loops -/
/-- what a loop over ds needs -/
def FoR (ds : List D) (g : TGd) (a : TSd) (D0 : DEnds) (s : DSt) : Prop := ∃ P : Nat → DSt → Prop, P 0 s ∧ (∀ (i : Nat) d s, ds[i]? = some d → P i s → g (.fz d) s fun s2 => a { D0 with nx := P (i + 1), ct := P (i + 1), bk := D0.nx } s2) ∧ ∀ s, P ds.length s → D0.nx s
theorem s_for {mi : TId} : mFor mi g a D0 s = mi s fun ds s1 => FoR ds g a D0 s1 := rfl
def WhR (c : TTd) (a : TSd) (D0 : DEnds) (s : DSt) : Prop := ∃ P : Nat → DSt → Prop, (∃ n, P n s) ∧ ∀ n s, P n s → c s fun b s1 => br b (a { D0 with nx := fun s' => ∃ n', n' < n ∧ P n' s', ct := fun s' => ∃ n', n' < n ∧ P n' s', bk := D0.nx }) .mk D0.nx .mk s1
theorem s_while : mWhile c a D0 s = WhR c a D0 s := rfl
def LcR (ds : List D) (g : TGd) (mt : TTd) (me : TD) (vs : List Nat) (Q : W → DSt → Prop) (l : Lock Q) (s : DSt) : Prop := ∃ P : Nat → List D → DSt → Prop, P 0 [] s ∧
  (∀ (i : Nat) d acc s, ds[i]? = some d → P i acc s → freeAt s vs = true ∧ g (.fz d) (wipeD s vs) fun s2 => mt s2 fun b s3 =>
    if b = true then me s3 fun w s4 => tv w s4 fun y s5 => acc.length < sizeLine ∧ P (i + 1) (acc ++ [y.frz]) (unw s s5 vs) else P (i + 1) acc (unw s s3 vs)) ∧
  ∀ acc s, P ds.length acc s → Q (.val (.ml acc)) s
theorem s_lc {mi : TId} {mt : TTd} {vs : List Nat} {Q} : mLc mi g mt ma vs s Q = mi s fun ds s1 => LcR ds g mt ma vs Q .mk s1 := rfl
/-- the loop's rule: P holds ahead of each turn -/
theorem for_of {ds : List D} (P : Nat → DSt → Prop) (h0 : P 0 s) (hs : ∀ (i : Nat) d s, ds[i]? = some d → P i s → ∀ (N B : DSt → Prop) (R : M → DSt → Prop), (∀ s, P (i + 1) s → N s) → B = D0.nx → R = D0.rt → g (.fz d) s fun s2 => a ⟨N, R, B, N⟩ s2)
    (hd : ∀ s, P ds.length s → D0.nx s) : FoR ds g a D0 s :=
  ⟨P, h0, fun i d s hi hp => hs i d s hi hp _ _ _ (fun _ h => h) rfl rfl, hd⟩
theorem wh_of (P : Nat → DSt → Prop) (n : Nat) (h0 : P n s) (hs : ∀ n s, P n s → ∀ (N B : DSt → Prop) (R : M → DSt → Prop), (∀ m s, m < n → P m s → N s) → B = D0.nx → R = D0.rt → c s fun b s1 => br b (a ⟨N, R, B, N⟩) .mk B .mk s1) : WhR c a D0 s :=
  ⟨P, ⟨n, h0⟩, fun n s hp => hs n s hp (fun s' => ∃ n', n' < n ∧ P n' s') _ _ (fun m s h q => ⟨m, h, q⟩) rfl rfl⟩
/-- a statement and what follows, joined at J -/
theorem join (J : DSt → Prop) (h : ∀ N : DSt → Prop, (∀ s, J s → N s) → a { D0 with nx := N } s) (k : ∀ s, J s → b D0 s) : mSeq a b D0 s := h _ k
/-- a loop without items -/
theorem for_none {ds : List D} (h : ds = []) (q : D0.nx s) : FoR ds g a D0 s := by
  subst h
  exact ⟨fun i s' => s' = s, rfl, fun i d s' hd => by simp at hd, fun s' e => by subst e; exact q⟩
end

theorem filterMap_take {α β : Type} {f : α → Option β} {ds : List α} {i : Nat} {d : α} (h : ds[i]? = some d) : (ds.take (i + 1)).filterMap f = (ds.take i).filterMap f ++ (f d).toList := by
  obtain ⟨hi, e⟩ := List.getElem?_eq_some_iff.mp h
  rw [List.take_succ, h, List.filterMap_append]
  cases e2 : f d <;> simp [e2]
theorem fm_len {α β : Type} {f : α → Option β} {ds : List α} {i : Nat} {d : α} (h : ds[i]? = some d) : ((ds.take i).filterMap f).length < ds.length := by
  obtain ⟨hi, e⟩ := List.getElem?_eq_some_iff.mp h
  exact Nat.lt_of_le_of_lt (List.length_filterMap_le _ _) (by simp; omega)
/-- [e for x in ds if c], its state S kept -/
theorem lcR_fm {ds : List D} {g : TGd} {mt : TTd} {me : TD} {vs : List Nat} {s : DSt} {Q : W → DSt → Prop} {l : Lock Q} (S : DSt → Prop) (f : D → Option D) (hl : ds.length ≤ sizeLine) (h0 : S s)
    (hb : ∀ d ∈ ds, ∀ s, S s → ∀ (R : M → DSt → Prop) (R' : DSt → Prop), (∀ y s', f d = some y.frz → S s' → R y s') → (∀ s', f d = none → S s' → R' s') → freeAt s vs = true ∧ g (.fz d) (wipeD s vs) fun s2 => mt s2 fun b s3 => br b (fun s3 => me s3 fun w s4 => tv w s4 fun y s5 => R y (unw s s5 vs)) .mk (fun s3 => R' (unw s s3 vs)) .mk s3)
    (hq : ∀ s', S s' → Q (.val (.ml (ds.filterMap f))) s') : LcR ds g mt me vs Q l s := by
  refine ⟨fun i acc s => acc = (ds.take i).filterMap f ∧ S s, ⟨by simp, h0⟩, ?_, ?_⟩
  · rintro i d acc s hd ⟨rfl, hs⟩
    refine hb d (List.mem_of_getElem? hd) s hs (fun y s' => ((ds.take i).filterMap f).length < sizeLine ∧ (ds.take i).filterMap f ++ [y.frz] = (ds.take (i + 1)).filterMap f ∧ S s') (fun s' => (ds.take i).filterMap f = (ds.take (i + 1)).filterMap f ∧ S s') ?_ ?_
    · intro y s' e h
      refine ⟨Nat.lt_of_lt_of_le (fm_len hd) hl, ?_, h⟩
      rw [filterMap_take hd, e]; rfl
    · intro s' e h
      refine ⟨?_, h⟩
      rw [filterMap_take hd, e]; simp
  · rintro acc s ⟨rfl, h⟩
    rw [List.take_length]
    exact hq s h
/-- [e for x in ds], its state S kept -/
theorem lcR_map {ds : List D} {g : TGd} {me : TD} {vs : List Nat} {s : DSt} {Q : W → DSt → Prop} {l : Lock Q} (S : DSt → Prop) (f : D → D) (hl : ds.length ≤ sizeLine) (h0 : S s)
    (hb : ∀ d ∈ ds, ∀ s, S s → ∀ (R : M → DSt → Prop), (∀ y s', f d = y.frz → S s' → R y s') → freeAt s vs = true ∧ g (.fz d) (wipeD s vs) fun s2 => me s2 fun w s4 => tv w s4 fun y s5 => R y (unw s s5 vs))
    (hq : ∀ s', S s' → Q (.val (.ml (ds.map f))) s') : LcR ds g mYes me vs Q l s := by
  refine lcR_fm S (fun d => some (f d)) hl h0 (fun d hd s hs R R' h1 h2 => ?_) fun s' hs => ?_
  · exact hb d hd s hs R fun y s' e h => h1 y s' (by rw [e]) h
  · have : ds.filterMap (fun d => some (f d)) = ds.map f := by rw [← List.filterMap_eq_map]; rfl
    rw [this]; exact hq s' hs
/-- [e for x in ds], its state S kept, of the items Pp alone is known -/
theorem lcR_all {ds : List D} {g : TGd} {me : TD} {vs : List Nat} {s : DSt} {Q : W → DSt → Prop} {l : Lock Q} (S : DSt → Prop) (Pp : D → Prop) (hl : ds.length ≤ sizeLine) (h0 : S s)
    (hb : ∀ d ∈ ds, ∀ s, S s → ∀ (R : M → DSt → Prop), (∀ y s', Pp y.frz → S s' → R y s') → freeAt s vs = true ∧ g (.fz d) (wipeD s vs) fun s2 => me s2 fun w s4 => tv w s4 fun y s5 => R y (unw s s5 vs))
    (hq : ∀ es s', es.length = ds.length → (∀ e ∈ es, Pp e) → S s' → Q (.val (.ml es)) s') : LcR ds g mYes me vs Q l s := by
  refine ⟨fun i acc s => acc.length = i ∧ (∀ e ∈ acc, Pp e) ∧ S s, ⟨rfl, (fun _ h => nomatch h), h0⟩, ?_, ?_⟩
  · rintro i d acc s hd ⟨rfl, hp, hs⟩
    have hlt := (List.getElem?_eq_some_iff.mp hd).1
    exact hb d (List.mem_of_getElem? hd) s hs (fun y s' => acc.length < sizeLine ∧ (acc ++ [y.frz]).length = acc.length + 1 ∧ (∀ e ∈ acc ++ [y.frz], Pp e) ∧ S s') fun y s' hy h => ⟨by omega, by simp, fun e he => by
      rcases List.mem_append.mp he with q | q
      · exact hp e q
      · rw [List.mem_singleton.mp q]; exact hy, h⟩
  · rintro acc s ⟨e, hp, h⟩
    exact hq acc s e hp h
theorem rng_get {lo : Int} {n i : Nat} {d : D} (h : (rng lo n)[i]? = some d) : i < n ∧ d = .int (lo + (i : Nat)) := by
  unfold rng at h
  rw [List.getElem?_map] at h
  by_cases hi : i < n
  · simp [hi] at h; exact ⟨hi, h.symm⟩
  · simp [hi] at h
theorem rng_mem {lo : Int} {n : Nat} {d : D} (h : d ∈ rng lo n) : ∃ i : Nat, i < n ∧ d = .int (lo + (i : Nat)) := by
  unfold rng at h
  obtain ⟨i, hi, rfl⟩ := List.mem_map.mp h
  exact ⟨i, List.mem_range.mp hi, rfl⟩
theorem rng_len {lo : Int} {n : Nat} : (rng lo n).length = n := by simp [rng]
theorem atI_pos {α : Type} {xs : List α} {k : Int} (d : α) (h0 : 0 ≤ k) (h1 : k < xs.length) : atI xs k = some (xs.getD k.toNat d) := by
  unfold atI ixN
  rw [if_pos h0, if_pos h1]
  have : k.toNat < xs.length := by omega
  simp [this]
theorem atI_nat {α : Type} {xs : List α} {k : Nat} {x : α} (h : xs[k]? = some x) : atI xs (k : Nat) = some x := by
  obtain ⟨hk, e⟩ := List.getElem?_eq_some_iff.mp h
  unfold atI ixN
  rw [if_pos (by omega), if_pos (by omega)]
  exact h
theorem cmul_r {i j : Int} (h0 : -(2 ^ 64) < j) (h1 : j < 2 ^ 64) : CMul i j := .inr ⟨h0, h1⟩
theorem cmul_l {i j : Int} (h0 : -(2 ^ 64) < i) (h1 : i < 2 ^ 64) : CMul i j := .inl ⟨h0, h1⟩
theorem cfd_r {i j : Int} (h0 : j ≠ 0) (h1 : j.natAbs < 1073741824) : CFd i j := .inl ⟨h0, h1⟩
theorem fmod_nn {i j : Int} (h : 0 < j) : 0 ≤ i.fmod j := Int.fmod_nonneg_of_pos _ h
theorem fmod_lt {i j : Int} (h : 0 < j) : i.fmod j < j := Int.fmod_lt_of_pos _ h
end DL

namespace DL
open PySem PySem.Spec L2
section
variable {Z : ZX} {X : Cx} {K : PySem.W.Frag} {F0 H0 F H F1 H1 F2 H2 F3 H3 F4 H4 F' H' : Hp} {A0 A A1 A2 A3 A' Av B : List Addr} {σ σ3 : L2.St} {s s1 s2 s4 s' : DSt} {v : V} {w : W} {pos : Pos} {Dn : Addr} {acc : List D} {vs : List Nat}
/-- a value held, the state goes on -/
theorem Out.stepT (o : Out K F H A σ w s v F1 H1 B A1) (p : OutT K F1 H1 A1 σ s2 F2 H2 A2) : Out K F H A σ w s2 v F2 H2 B A2 := by
  have hx : ∀ a ∈ B, a ∉ A1 := nd_x o.nd
  refine ⟨Frm.trans (B := B) o.fr p.fr, p.sub, o.wow.keep p.fr hx, p.own, ?_⟩
  exact nd_mk (nd_l o.nd) p.nd (apart (fun a h => (o.wow.out a h).2) hx p.fr)
/-- the state goes on by itself (a turn of an iterator) -/
theorem Out.stepF (o : Out K F H A σ w s v F1 H1 B A1) (f : Frm F1 H1 [] F2 H2 []) (sb : Sub F2 H2) : Out K F H A σ w s v F2 H2 B A1 := by
  have f' : Frm F1 H1 A1 F2 H2 A1 := f.more (fun a q => nomatch q) (fun a ha => .inl ha)
  exact o.stepT ⟨f', sb, o.own.keep f fun a _ h => (nomatch h), nd_r o.nd⟩
/-- an item more in an owned list -/
theorem Out.app {y : V} {d : D} (o : Out K F0 H0 A0 σ (.val (.ml acc)) s (.ref Dn) F H [Dn] A) (zy : Fz K F y d) : ∃ xs, H Dn = some (.lst xs) ∧ xs.length = acc.length ∧ Out K F0 H0 A0 σ (.val (.ml (acc ++ [d]))) s (.ref Dn) F (upd H Dn (.lst (xs ++ [y]))) [Dn] A := by
  have w7 := o.wow
  cases w7 with
  | val ow7 =>
    cases ow7 with
    | @ml _ xs _ nF hH zs =>
      refine ⟨xs, hH, zs.length.symm ▸ rfl, ?_⟩
      have hx7 := nd_x o.nd
      have g8 : Frm F H [Dn] F (upd H Dn (.lst (xs ++ [y]))) [Dn] := Frm.upd hH trivial
      have sb8 : Sub F (upd H Dn (.lst (xs ++ [y]))) := o.sub.upd nF (.inr ⟨_, hH, trivial⟩)
      have ow8 : OwS K F (upd H Dn (.lst (xs ++ [y]))) σ s A := o.own.keep g8 fun a ha hb => hx7 a hb ha
      refine ⟨?_, sb8, .val (.ml nF upd_same (zs.append (.cons zy .nil))), ow8, o.nd⟩
      have f7 : Frm F0 H0 A0 F H (A ++ [Dn]) := o.fr.weak fun a ha => (List.mem_append.mp ha).elim (List.mem_append_right _) (List.mem_append_left _)
      exact (Frm.trans (B := A) f7 g8).weak fun a ha => (List.mem_append.mp ha).elim (List.mem_append_right _) (List.mem_append_left _)
theorem wipe_idem : L2.wipe (L2.wipe σ vs) vs = L2.wipe σ vs := by
  refine List.ext_getElem? fun j => ?_
  rw [wipe_get, wipe_get]
  by_cases hj : j ∈ vs
  · rw [if_pos hj, if_pos hj]; cases e : σ[j]? <;> simp
  · rw [if_neg hj, if_neg hj]
/-- within a block the names vs are out of sight -/
theorem blk_in (o : Out K F0 H0 A0 σ (.val (.ml acc)) s (.ref Dn) F H [Dn] A) (hf : freeAt s vs = true) :
    ∃ Ab, Out K F H ([Dn] ++ A) (L2.wipe σ vs) (.val (.ml acc)) (wipeD s vs) (.ref Dn) F H [Dn] Ab ∧
      ∀ (σ3 : L2.St) (acc' : List D) (s5 : DSt) (F5 H5 : Hp) (A5 : List Addr), L2.wipe σ3 vs = L2.wipe σ vs → Out K F H ([Dn] ++ A) σ3 (.val (.ml acc')) s5 (.ref Dn) F5 H5 [Dn] A5 → ∃ A6, Out K F0 H0 A0 σ (.val (.ml acc')) (DL.unw s s5 vs) (.ref Dn) F5 H5 [Dn] A6 := by
  obtain ⟨Ab, owb, hb1, hb2⟩ := o.own.wipe vs
  have hsub : ∀ a ∈ [Dn] ++ Ab, a ∈ [Dn] ++ A := fun a ha => (List.mem_append.mp ha).elim (List.mem_append_left _) fun q => List.mem_append_right _ (hb1 a q)
  refine ⟨Ab, ⟨Frm.refl.weak hsub, o.sub, ?_, owb, ?_⟩, ?_⟩
  · have w7 := o.wow
    cases w7 with
    | val ow7 => exact .val ow7
  · exact nd_mk (by simp) (hb2 (nd_r o.nd)) fun a ha hb => nd_x o.nd a ha (hb1 a hb)
  · intro σ3 acc' s5 F5 H5 A5 hw o5
    obtain ⟨A6, ow6, h6, n6⟩ := OwS.unw o5.own o.own o5.fr.fsub vs hf
    rw [unwS_eq hw] at ow6
    have f5 : Frm F0 H0 A0 F5 H5 ([Dn] ++ A5) := o.fr.trans0 o5.fr
    refine ⟨A6, f5.weak fun a ha => (List.mem_append.mp ha).elim (List.mem_append_left _) fun q => List.mem_append_right _ (h6 a q), o5.sub, ?_, ow6, ?_⟩
    · have w7 := o5.wow
      cases w7 with
      | val ow7 => exact .val ow7
    · exact nd_mk (by simp) (n6 (nd_r o5.nd)) fun a ha hb => nd_x o5.nd a ha (h6 a hb)
/-- a target's store, a value held -/
theorem Out.stepG {g : TG} {gd : TGd} {x : V} {d : D} {Q : L2.St → Hp → Prop} {Qd : DSt → Prop} {σ0 : L2.St} (hσ : L2.wipe σ vs = L2.wipe σ0 vs) (go : GOnly g vs) (gm : GMono g) (lg : LiftG Z g gd) (o : Out Z.K F0 H0 A0 σ (.val (.ml acc)) s (.ref Dn) F H [Dn] A) (z : Fz Z.K F x d) (h : gd (.fz d) s Qd)
    (k : ∀ σ3 s3 F3 H3 A3, L2.wipe σ3 vs = L2.wipe σ0 vs → Qd s3 → (∀ a u, F a = some u → F3 a = some u) → Out Z.K F0 H0 A0 σ3 (.val (.ml acc)) s3 (.ref Dn) F3 H3 [Dn] A3 → Q σ3 H3) : g x σ H fun σ2 H2 => L2.wipe σ2 vs = L2.wipe σ0 vs ∧ Q σ2 H2 := by
  have ndA := nd_r o.nd
  refine gm x σ H _ _ (fun σ3 H3 q => ⟨q.1.trans hσ, q.2 (q.1.trans hσ)⟩) (go x σ H (fun σ3 H3 => L2.wipe σ3 vs = L2.wipe σ0 vs → Q σ3 H3) (lg σ H F [] A s x (.fz d) _ _ o.sub (.fz z) o.own (by simpa using ndA) h ?_))
  intro σ3 s3 F3 H3 A3 q3 f3 sb3 ow3 nd3 hw
  have f3' : Frm F H A F3 H3 A3 := by simpa using f3
  have hx : ∀ a ∈ [Dn], a ∉ A := nd_x o.nd
  have w7 := o.wow
  cases w7 with
  | val ow7 =>
    have w8 : WOw Z.K F H σ (.ref Dn) (.val (.ml acc)) [Dn] := .val ow7
    have w9 := w8.keep f3' hx
    cases w9 with
    | val ow9 =>
      exact k σ3 s3 F3 H3 A3 hw q3 f3.fsub ⟨Frm.trans (B := [Dn]) o.fr f3', sb3, .val ow9, ow3, nd_mk (by simp) nd3 (apart (fun a h => (o.wow.out a h).2) hx f3')⟩

/-- [elt for target in iter if .. for target1 in iter1 if ..] -/
def LcR2 (ds : List D) (g : TGd) (mt : TTd) (mi1 : TId) (g1 : TGd) (mt1 : TTd) (me : TD) (vs vs1 : List Nat) (Q : W → DSt → Prop) (l : Lock Q) (s : DSt) : Prop := ∃ P : Nat → List D → DSt → Prop, P 0 [] s ∧
  (∀ (i : Nat) d acc s, ds[i]? = some d → P i acc s → freeAt s vs = true ∧ g (.fz d) (wipeD s vs) fun s2 => mt s2 fun b s3 =>
    br b (fun s3 => mi1 s3 fun ds1 s4 => ∃ P1 : Nat → List D → DSt → Prop, P1 0 acc s4 ∧
        (∀ (j : Nat) d1 acc1 s5, ds1[j]? = some d1 → P1 j acc1 s5 → freeAt s5 vs1 = true ∧ g1 (.fz d1) (wipeD s5 vs1) fun s6 => mt1 s6 fun b s7 =>
          br b (fun s7 => me s7 fun w s8 => tv w s8 fun y s9 => acc1.length < sizeLine ∧ P1 (j + 1) (acc1 ++ [y.frz]) (unw s5 s9 vs1)) .mk (fun s7 => P1 (j + 1) acc1 (unw s5 s7 vs1)) .mk s7) ∧
        ∀ acc1 s5, P1 ds1.length acc1 s5 → P (i + 1) acc1 (unw s s5 vs)) .mk (fun s3 => P (i + 1) acc (unw s s3 vs)) .mk s3) ∧
  ∀ acc s, P ds.length acc s → Q (.val (.ml acc)) s
def mLc2 (mi : TId) (g : TGd) (mt : TTd) (mi1 : TId) (g1 : TGd) (mt1 : TTd) (me : TD) (vs vs1 : List Nat) : TD := fun s Q => mi s fun ds s1 => LcR2 ds g mt mi1 g1 mt1 me vs vs1 Q .mk s1
theorem s_lc2 {mi mi1 : TId} {g g1 : TGd} {mt mt1 : TTd} {me : TD} {vs vs1 : List Nat} {Q} : mLc2 mi g mt mi1 g1 mt1 me vs vs1 s Q = mi s fun ds s1 => LcR2 ds g mt mi1 g1 mt1 me vs vs1 Q .mk s1 := rfl
theorem Lift.lc2 {wi wi1 : TI} {g g1 : TG} {tt tt1 : TT} {te : TE} {mi mi1 : TId} {gd gd1 : TGd} {mt mt1 : TTd} {me : TD} {vs vs1 : List Nat} (go : GOnly g vs) (gm : GMono g) (go1 : GOnly g1 vs1) (gm1 : GMono g1) (li : LiftI Z wi mi) (lg : LiftG (noxZ Z) g gd) (lt : LiftT (noxZ Z) tt mt) (li1 : LiftI (noxZ Z) wi1 mi1) (lg1 : LiftG (noxZ Z) g1 gd1) (lt1 : LiftT (noxZ Z) tt1 mt1) (le : Lift (noxZ Z) te me) : Lift Z (tLc2 wi g tt wi1 g1 tt1 te vs vs1) (mLc2 mi gd mt mi1 gd1 mt1 me vs vs1) := by
  intro σ H F A s Q Qd R h k
  refine li σ H F A s _ _ R h fun ds s1 F1 H1 A1 J G h1 o1 it g1' => ?_
  obtain ⟨Pv, p0, hs, hd⟩ := h1
  intro Dn hDn
  obtain ⟨gn, sbn, own⟩ := new_lst (K := Z.K) o1.sub hDn (.nil : Fzs Z.K F1 [] [])
  have f0 : Frm F H A F1 H1 ([] ++ A1) := by simpa using o1.fr
  have q0 := Out.fin (σ := σ) f0 o1.own (by simpa using o1.nd) gn sbn own (by simp)
  refine ⟨fun i m H' => m = ds.length - i ∧ i ≤ ds.length ∧ ∃ F' A' s' acc, Pv i acc s' ∧ Out Z.K F H A σ (.val (.ml acc)) s' (.ref Dn) F' H' [Dn] A' ∧ G F', ⟨ds.length, rfl, Nat.zero_le _, F1, A1, s1, [], p0, q0, g1'⟩, ?_⟩
  rintro i m H' ⟨rfl, hi, F', A', s', acc, hp, o, gg⟩
  by_cases hlt : ¬ i < ds.length
  · have hi' : i = ds.length := by omega
    subst hi'
    exact .inl ⟨it.stop F' H' o.sub gg, k _ _ _ _ _ _ _ (hd acc s' hp) o⟩
  have hlt : i < ds.length := Decidable.of_not_not hlt
  refine .inr ⟨it.go i F' H' o.sub gg hlt, fun H2 => ∃ F2 A2 s2 acc, Pv (i + 1) acc s2 ∧ Out Z.K F H A σ (.val (.ml acc)) s2 (.ref Dn) F2 H2 [Dn] A2 ∧ G F2, ?_, ?_⟩
  · rintro H2 ⟨F2, A2, s2, acc2, hp2, o2, g2⟩
    exact ⟨ds.length - (i + 1), by omega, rfl, by omega, F2, A2, s2, acc2, hp2, o2, g2⟩
  intro x H2 hy
  obtain ⟨d, hd'⟩ : ∃ d, ds[i]? = some d := ⟨ds[i], by simp [hlt]⟩
  obtain ⟨F2, f2, sb2, z⟩ := it.yld i F' H' x H2 d o.sub gg hd' hy
  obtain ⟨hfree, hg⟩ := hs i d acc s' hd' hp
  have o2 := o.stepF f2 sb2
  have gg2 := it.mono F' F2 f2.fsub gg
  obtain ⟨Ab, ob, leave⟩ := blk_in o2 hfree
  refine Out.stepG (Z := noxZ Z) (vs := vs) wipe_idem go gm lg ob z hg ?_
  intro σ3 s3 F3 H3 A3 hw' q3 fs3 o3
  have gg3 := it.mono F2 F3 fs3 gg2
  refine lt σ3 H3 F3 A3 s3 _ _ ⟨o3.sub, o3.own, nd_r o3.nd, nox_ex (Z := Z) ((R.ex.tb.frm o2.fr).frm o3.fr)⟩ q3 fun b s4 F4 H4 A4 q4 t4 => ?_
  have o4 := o3.stepT t4
  have gg4 := it.mono F3 F4 t4.fr.fsub gg3
  cases b with
  | false =>
    rw [br_f] at q4
    rw [if_neg Bool.false_ne_true]
    obtain ⟨A6, o6⟩ := leave σ3 acc s4 F4 H4 A4 hw' o4
    exact ⟨F4, A6, _, acc, q4, o6, gg4⟩
  | true =>
    rw [br_t] at q4
    rw [if_pos rfl]
    refine li1 σ3 H4 F4 A4 s4 _ _ ⟨o4.sub, o4.own, nd_r o4.nd, nox_ex (Z := Z) ((R.ex.tb.frm o2.fr).frm o4.fr)⟩ q4 fun ds1 s5 F5 H5 A5 J1 G1 q5 t5 it1 g15 => ?_
    have o5 := o4.stepT t5
    have gg5 := it.mono F4 F5 t5.fr.fsub gg4
    obtain ⟨P1, p10, hs1, hd1⟩ := q5
    refine ⟨fun j k Hj => k = ds1.length - j ∧ j ≤ ds1.length ∧ ∃ F' Aj s' acc, P1 j acc s' ∧ Out Z.K F2 H2 ([Dn] ++ A') σ3 (.val (.ml acc)) s' (.ref Dn) F' Hj [Dn] Aj ∧ G F' ∧ G1 F', ⟨ds1.length, rfl, Nat.zero_le _, F5, A5, s5, acc, p10, o5, gg5, g15⟩, ?_⟩
    rintro j kk Hj ⟨rfl, hj, Fj, Aj, sj, accj, hpj, oj, ggj, g1j⟩
    by_cases hlt1 : ¬ j < ds1.length
    · have hj' : j = ds1.length := by omega
      subst hj'
      obtain ⟨A6, o6⟩ := leave σ3 accj sj Fj Hj Aj hw' oj
      exact .inl ⟨it1.stop Fj Hj oj.sub g1j, Fj, A6, _, accj, hd1 accj sj hpj, o6, ggj⟩
    have hlt1 : j < ds1.length := Decidable.of_not_not hlt1
    refine .inr ⟨it1.go j Fj Hj oj.sub g1j hlt1, fun H6 => ∃ F' A6 s' acc, P1 (j + 1) acc s' ∧ Out Z.K F2 H2 ([Dn] ++ A') σ3 (.val (.ml acc)) s' (.ref Dn) F' H6 [Dn] A6 ∧ G F' ∧ G1 F', ?_, ?_⟩
    · rintro H6 ⟨F6, A6, s6, acc6, hp6, o6, g6, g61⟩
      exact ⟨ds1.length - (j + 1), by omega, rfl, by omega, F6, A6, s6, acc6, hp6, o6, g6, g61⟩
    intro x1 H6 hy1
    obtain ⟨d1, hd1'⟩ : ∃ d, ds1[j]? = some d := ⟨ds1[j], by simp [hlt1]⟩
    obtain ⟨F6, f6, sb6, z1⟩ := it1.yld j Fj Hj x1 H6 d1 oj.sub g1j hd1' hy1
    obtain ⟨hfree1, hg1⟩ := hs1 j d1 accj sj hd1' hpj
    have o6 := oj.stepF f6 sb6
    have gg6 := it.mono Fj F6 f6.fsub ggj
    have g16 := it1.mono Fj F6 f6.fsub g1j
    obtain ⟨Ab1, ob1, leave1⟩ := blk_in o6 hfree1
    refine Out.stepG (Z := noxZ Z) (vs := vs1) wipe_idem go1 gm1 lg1 ob1 z1 hg1 ?_
    intro σ4 s7 F7 H7 A7 hw1' q7 fs7 o7
    have gg7 := it.mono F6 F7 fs7 gg6
    have g17 := it1.mono F6 F7 fs7 g16
    refine lt1 σ4 H7 F7 A7 s7 _ _ ⟨o7.sub, o7.own, nd_r o7.nd, nox_ex (Z := Z) (((R.ex.tb.frm o2.fr).frm o6.fr).frm o7.fr)⟩ q7 fun b s8 F8 H8 A8 q8 t8 => ?_
    have o8 := o7.stepT t8
    have gg8 := it.mono F7 F8 t8.fr.fsub gg7
    have g18 := it1.mono F7 F8 t8.fr.fsub g17
    cases b with
    | false =>
      rw [br_f] at q8
      rw [if_neg Bool.false_ne_true]
      obtain ⟨A9, o9⟩ := leave1 σ4 accj s8 F8 H8 A8 hw1' o8
      exact ⟨F8, A9, _, accj, q8, o9, gg8, g18⟩
    | true =>
      rw [br_t] at q8
      rw [if_pos rfl]
      refine le σ4 H8 F8 A8 s8 _ _ ⟨o8.sub, o8.own, nd_r o8.nd, nox_ex (Z := Z) (((R.ex.tb.frm o2.fr).frm o6.fr).frm o8.fr)⟩ q8 fun w s9 y F9 H9 Av9 A9 q9 t9 => ?_
      obtain ⟨m, s10, F10, A10, ⟨hl, q10⟩, t10, zy⟩ := tv_fz t9 q9
      have o10 := o8.stepT t10
      obtain ⟨A11, o11⟩ := leave1 σ4 accj s10 F10 H9 A10 hw1' o10
      obtain ⟨xs, hH, lx, o12⟩ := o11.app zy
      exact ⟨xs, hH, by omega, F10, A11, _, accj ++ [m.frz], q10, o12, it.mono F8 F10 t10.fr.fsub gg8, it1.mono F8 F10 t10.fr.fsub g18⟩
theorem de_lc2 {elt iter iter1 tg tg1 : Expr} {ifs ifs1 : List Expr} {scope : Scope} {own : List (Str × Nat)} {vs1 : List Nat} {wi wi1 : TI} {g g1 : TG} {tt tt1 : TT} {te : TE} {mi mi1 : TId} {gd gd1 : TGd} {mt mt1 : TTd} {me : TD} (hc : X.calm = true) (hN : X.N.Nodup) (hi : DI Z X tg iter wi mi) (ok : BlkOk X.N X.env.scope scope own) (hv : ∀ i ∈ vs1, i ∈ own.map (·.2)) (go : GOnly g (own.map (·.2))) (gm : GMono g) (go1 : GOnly g1 vs1) (gm1 : GMono g1)
    (hg : ∀ (s : Shared) (H : Hp) (C : Addr) (cl : List (Str × Addr)) (fp : List Addr), DG (noxZ Z) (X.blk s H scope (compEnvC scope cl C X.env) fp) tg g gd)
    (ht : ∀ (s : Shared) (H : Hp) (C : Addr) (cl : List (Str × Addr)) (fp : List Addr), DTs (noxZ Z) (X.blk s H scope (compEnvC scope cl C X.env) fp) ifs tt mt)
    (hi1 : ∀ (s : Shared) (H : Hp) (C : Addr) (cl : List (Str × Addr)) (fp : List Addr), DI (noxZ Z) (X.blk s H scope (compEnvC scope cl C X.env) fp) tg1 iter1 wi1 mi1)
    (hg1 : ∀ (s : Shared) (H : Hp) (C : Addr) (cl : List (Str × Addr)) (fp : List Addr), DG (noxZ Z) (X.blk s H scope (compEnvC scope cl C X.env) fp) tg1 g1 gd1)
    (ht1 : ∀ (s : Shared) (H : Hp) (C : Addr) (cl : List (Str × Addr)) (fp : List Addr), DTs (noxZ Z) (X.blk s H scope (compEnvC scope cl C X.env) fp) ifs1 tt1 mt1)
    (he : ∀ (s : Shared) (H : Hp) (C : Addr) (cl : List (Str × Addr)) (fp : List Addr), DE (noxZ Z) (X.blk s H scope (compEnvC scope cl C X.env) fp) elt te me)
    (hs : ∀ x, foldedSetIterable iter X.env x = pure x := by intro _; rfl) (hs1 : ∀ env x, foldedSetIterable iter1 env x = pure x := by intro _ _; rfl) : DE Z X (.ListComp elt [⟨tg, iter, ifs, 0⟩, ⟨tg1, iter1, ifs1, 0⟩] scope pos) (tLc2 wi g tt wi1 g1 tt1 te (own.map (·.2)) vs1) (mLc2 mi gd mt mi1 gd1 mt1 me (own.map (·.2)) vs1) :=
  ⟨pe_lc2 hc hN hi.pi ok hv (fun s H C cl fp => (hg s H C cl fp).pg) (fun s H C cl fp => (ht s H C cl fp).pt) (fun s H C cl fp => (hi1 s H C cl fp).pi) (fun s H C cl fp => (hg1 s H C cl fp).pg) (fun s H C cl fp => (ht1 s H C cl fp).pt) (fun s H C cl fp => (he s H C cl fp).pe) hs hs1,
    .lc2 go gm go1 gm1 hi.lf (hg {} (fun _ => none) 0 [] []).lf (ht {} (fun _ => none) 0 [] []).lf (hi1 {} (fun _ => none) 0 [] []).lf (hg1 {} (fun _ => none) 0 [] []).lf (ht1 {} (fun _ => none) 0 [] []).lf (he {} (fun _ => none) 0 [] []).lf⟩
/-- y = [..] on one line, y a local name -/
theorem ds_setLc2 {i : Nat} {y : Str} {py spos : Pos} {elt iter iter1 tg tg1 : Expr} {ifs ifs1 : List Expr} {scope : Scope} {own : List (Str × Nat)} {vs1 : List Nat} {wi wi1 : TI} {g g1 : TG} {tt tt1 : TT} {te : TE} {mi mi1 : TId} {gd gd1 : TGd} {mt mt1 : TTd} {me : TD} (hc : X.calm = true) (hN : X.N.Nodup) (hy : X.N[i]? = some y) (hyl : X.env.scope.names.lookup y = some .local) (hsw : swapsWith (.ListComp elt [⟨tg, iter, ifs, 0⟩, ⟨tg1, iter1, ifs1, 0⟩] scope pos) (some (.Name y py)) spos.line X.env = pure true) (hi : DI Z X tg iter wi mi) (ok : BlkOk X.N X.env.scope scope own) (hv : ∀ i ∈ vs1, i ∈ own.map (·.2)) (go : GOnly g (own.map (·.2))) (gm : GMono g) (go1 : GOnly g1 vs1) (gm1 : GMono g1)
    (hg : ∀ (s : Shared) (H : Hp) (C : Addr) (cl : List (Str × Addr)) (fp : List Addr), DG (noxZ Z) (X.blk s H scope (compEnvC scope cl C X.env) fp) tg g gd)
    (ht : ∀ (s : Shared) (H : Hp) (C : Addr) (cl : List (Str × Addr)) (fp : List Addr), DTs (noxZ Z) (X.blk s H scope (compEnvC scope cl C X.env) fp) ifs tt mt)
    (hi1 : ∀ (s : Shared) (H : Hp) (C : Addr) (cl : List (Str × Addr)) (fp : List Addr), DI (noxZ Z) (X.blk s H scope (compEnvC scope cl C X.env) fp) tg1 iter1 wi1 mi1)
    (hg1 : ∀ (s : Shared) (H : Hp) (C : Addr) (cl : List (Str × Addr)) (fp : List Addr), DG (noxZ Z) (X.blk s H scope (compEnvC scope cl C X.env) fp) tg1 g1 gd1)
    (ht1 : ∀ (s : Shared) (H : Hp) (C : Addr) (cl : List (Str × Addr)) (fp : List Addr), DTs (noxZ Z) (X.blk s H scope (compEnvC scope cl C X.env) fp) ifs1 tt1 mt1)
    (he : ∀ (s : Shared) (H : Hp) (C : Addr) (cl : List (Str × Addr)) (fp : List Addr), DE (noxZ Z) (X.blk s H scope (compEnvC scope cl C X.env) fp) elt te me)
    (hs : ∀ x, foldedSetIterable iter X.env x = pure x := by intro _; rfl) (hs1 : ∀ env x, foldedSetIterable iter1 env x = pure x := by intro _ _; rfl) : DS Z X (.Assign [.Name y py] (.ListComp elt [⟨tg, iter, ifs, 0⟩, ⟨tg1, iter1, ifs1, 0⟩] scope pos) spos) (tAsg (tLc2 wi g tt wi1 g1 tt1 te (own.map (·.2)) vs1) (gName i)) (mAsg (mLc2 mi gd mt mi1 gd1 mt1 me (own.map (·.2)) vs1) (gNm i)) :=
  ⟨ps_setLc2 hc hN hy hyl hsw hi.pi ok hv (fun s H C cl fp => (hg s H C cl fp).pg) (fun s H C cl fp => (ht s H C cl fp).pt) (fun s H C cl fp => (hi1 s H C cl fp).pi) (fun s H C cl fp => (hg1 s H C cl fp).pg) (fun s H C cl fp => (ht1 s H C cl fp).pt) (fun s H C cl fp => (he s H C cl fp).pe) hs hs1,
    .asg (.lc2 go gm go1 gm1 hi.lf (hg {} (fun _ => none) 0 [] []).lf (ht {} (fun _ => none) 0 [] []).lf (hi1 {} (fun _ => none) 0 [] []).lf (hg1 {} (fun _ => none) 0 [] []).lf (ht1 {} (fun _ => none) 0 [] []).lf (he {} (fun _ => none) 0 [] []).lf) .name⟩
end
theorem flat_take {α β : Type} {f : α → List β} {ds : List α} {i : Nat} {d : α} (h : ds[i]? = some d) : (ds.take (i + 1)).flatMap f = (ds.take i).flatMap f ++ f d := by
  rw [List.take_succ, h, List.flatMap_append]
  simp
theorem flat_len {α β : Type} {f : α → List β} {ds : List α} {i : Nat} {d : α} (h : ds[i]? = some d) : ((ds.take i).flatMap f).length + (f d).length ≤ (ds.flatMap f).length := by
  have e : ds.flatMap f = (ds.take (i + 1)).flatMap f ++ (ds.drop (i + 1)).flatMap f := by rw [← List.flatMap_append, List.take_append_drop]
  rw [e, flat_take h, List.length_append, List.length_append]
  omega
/-- [e for x in ds for y in f x]: the states keep S, an inner loop keeps its own -/
theorem lcR2_fm {ds : List D} {g g1 : TGd} {mi1 : TId} {me : TD} {vs vs1 : List Nat} {s : DSt} {Q : W → DSt → Prop} {l : Lock Q} (S : DSt → Prop) (f : D → List D) (hl : (ds.flatMap f).length ≤ sizeLine) (h0 : S s)
    (hb : ∀ d ∈ ds, ∀ s, S s → ∀ (R : List D → DSt → Prop), (∀ (ds1 : List D) (s4 : DSt) (S1 : DSt → Prop) (f1 : D → D), f d = ds1.map f1 → S1 s4 →
        (∀ d1 ∈ ds1, ∀ s5, S1 s5 → ∀ R2 : M → DSt → Prop, (∀ y s', f1 d1 = y.frz → S1 s' → R2 y s') → freeAt s5 vs1 = true ∧ g1 (.fz d1) (wipeD s5 vs1) fun s6 => me s6 fun w s8 => tv w s8 fun y s9 => R2 y (unw s5 s9 vs1)) →
        (∀ s5, S1 s5 → S (unw s s5 vs)) → R ds1 s4) → freeAt s vs = true ∧ g (.fz d) (wipeD s vs) fun s2 => mi1 s2 R)
    (hq : ∀ s', S s' → Q (.val (.ml (ds.flatMap f))) s') : LcR2 ds g mYes mi1 g1 mYes me vs vs1 Q l s := by
  refine ⟨fun i acc s => acc = (ds.take i).flatMap f ∧ S s, ⟨by simp, h0⟩, ?_, ?_⟩
  · rintro i d acc s hd ⟨rfl, hs⟩
    refine hb d (List.mem_of_getElem? hd) s hs _ fun ds1 s4 S1 f1 hf h4 hin hout => ?_
    have hle := flat_len (f := f) hd
    rw [hf, List.length_map] at hle
    refine ⟨fun j acc1 s5 => acc1 = (ds.take i).flatMap f ++ (ds1.take j).map f1 ∧ S1 s5, ⟨by simp, h4⟩, ?_, ?_⟩
    · rintro j d1 acc1 s5 hd1 ⟨rfl, h5⟩
      have hj := (List.getElem?_eq_some_iff.mp hd1).1
      refine hin d1 (List.mem_of_getElem? hd1) s5 h5 (fun y s' => ((ds.take i).flatMap f ++ (ds1.take j).map f1).length < sizeLine ∧ (ds.take i).flatMap f ++ (ds1.take j).map f1 ++ [y.frz] = (ds.take i).flatMap f ++ (ds1.take (j + 1)).map f1 ∧ S1 s') fun y s' e h => ⟨?_, ?_, h⟩
      · rw [List.length_append, List.length_map, List.length_take]
        omega
      · rw [List.take_succ, hd1, List.map_append, ← e]
        simp
    · rintro acc1 s5 ⟨rfl, h5⟩
      refine ⟨?_, hout s5 h5⟩
      rw [List.take_length, flat_take hd, hf]
  · rintro acc s ⟨rfl, hs⟩
    rw [List.take_length]
    exact hq s hs
end DL

namespace DL
open PySem PySem.Spec L2

/-! ### enumerate of a tuple: how it begins -/
set_option maxHeartbeats 1000000 in
theorem enumT_meets (a : Addr) (xs : Array Value) :
    Meets (Builtin.«enumerate.__new__» ⟨[.type "enumerate", .ref a], []⟩) (fun _ R s => s.heap.IsTuple a xs ∧
      R (.ok (.ret (.ref (s.heap.push { cls := .type "tuple_iterator", data := .fields #[.ref a, .int 0 0] }).objs.size)))
        { s with heap := (s.heap.push { cls := .type "tuple_iterator", data := .fields #[.ref a, .int 0 0] }).push { cls := .type "enumerate", data := .fields #[.none, .bool false, .ref s.heap.objs.size, rawInt 0, .none, .none] } }) :=
  .of_wp fun prog w A R s h => by
    obtain ⟨hp, gl, di, tk, os⟩ := s
    obtain ⟨ht, h⟩ := h
    have sb := sub_enumerate
    have it : ∀ {B : Around} {E : Value → Shared → Prop} {Q : Value → Shared → Prop}, Q (.ref hp.objs.size) ⟨hp.push { cls := .type "tuple_iterator", data := .fields #[.ref a, .int 0 0] }, gl, di, tk, os⟩ → wpAny (model prog w) B (pyIter (.ref a)) Q E ⟨hp, gl, di, tk, os⟩ :=
      fun q => wpAny_pyIter_tuple ht q
    wp_walk using it
    refine wpAny_stack_any fun st => wpAny_pure ?_
    split
    · rename_i c _ _ _ _ _
      cases (c == Value.type "enumerate") <;>
      · wp_walk using it
        exact ⟨_, rfl, h⟩
    · wp_walk using it
      exact ⟨_, rfl, h⟩
theorem enumT_call {prog : Program} {w : World} {A : Around} {E : Value → Shared → Prop} {s : Shared} {a : Addr} {xs : Array Value} {Q : Value → Shared → Prop} (ht : s.heap.IsTuple a xs)
    (h : ∀ h', IsEnum h' (s.heap.objs.size + 1) s.heap.objs.size 0 .none → h'.IsTupleIter s.heap.objs.size a 0 → (∀ b o, s.heap.get? b = some o → h'.get? b = some o) → Q (.ref (s.heap.objs.size + 1)) { s with heap := h' }) :
    wpAny (model prog w) A (call (.type "enumerate") [.ref a]) Q E s := by
  refine callType_new F.called_enumerate (by decide) (F.typeCall_enumerate_1 _) (F.newCall_enumerate_1 _) (fun obj => F.args_object_init_2 obj _) F.entry_enumerate_new (enumT_meets a xs) ⟨ht, ?_⟩
  have hz : (s.heap.push { cls := .type "tuple_iterator", data := .fields #[.ref a, .int 0 0] }).objs.size = s.heap.objs.size + 1 := Heap.size_push ..
  have he := Heap.get?_push_size (s.heap.push { cls := .type "tuple_iterator", data := .fields #[.ref a, .int 0 0] }) (o := { cls := .type "enumerate", data := .fields #[.none, .bool false, .ref s.heap.objs.size, rawInt 0, .none, .none] }) rfl
  rw [hz] at he
  show _ ∧ _
  rw [hz]
  exact ⟨⟨_, he, rfl⟩, h _ he ⟨_, Heap.get?_push_of_some _ (Heap.get?_push_size _ rfl), rfl, rfl⟩ fun b o x => Heap.get?_push_of_some _ (Heap.get?_push_of_some _ x)⟩
/-- the tuple at a, each item in a new pair -/
def IteT (K : PySem.W.Frag) (a : Addr) : It :=
  ⟨fun i H => ∃ (xs : List V) (x : V), SqT K H a xs ∧ xs[i]? = some x, fun i H v H' => ∃ T x, v = .ref T ∧ H T = none ∧ H' = upd H T (.tup [.int (i : Nat), x]) ∧ ∀ xs, SqT K H a xs → xs[i]? = some x, fun i H => ∃ xs : List V, SqT K H a xs ∧ xs.length = i⟩
theorem turn_enumT {P : Program} {w : World} {K : PySem.W.Frag} {elts : List Expr} {kk : Nat} {tpos : Pos} (a e it : Addr) (hat : a ≠ it) (hae : a ≠ e) :
    Turn P w K (.Tuple elts kk tpos) (IteT K a) [e, it] e (fun i h => (∃ old, IsEnum h e it ((i : Nat) : Int) old) ∧ h.IsTupleIter it a i ∧ e ≠ it) where
  mem := by simp
  obj := fun i h st b hb => by
    obtain ⟨⟨old, he⟩, ⟨o, ho, hc, hd⟩, _⟩ := st
    rcases (by simpa using hb : b = e ∨ b = it) with z | z <;> subst z
    · exact ⟨_, he, fun v q => nomatch q⟩
    · exact ⟨o, ho, fun v q => by rw [hd] at q; cases q⟩
  keep := fun i h h' st k => ⟨st.1.imp fun old he => k e (by simp) _ he, st.2.1.at fun o q => k it (by simp) o q, st.2.2⟩
  item := by
    intro X hP hw hK hc i pins s σ H E I hf st hg
    subst hP hw hK
    obtain ⟨⟨old, he⟩, hit, hne⟩ := st
    obtain ⟨xs, x, hq, hx⟩ := hg
    obtain ⟨its, rv, p, hz⟩ := I.tuple hq
    obtain ⟨u, hu, ru⟩ := rv.get hx
    have hel : e < s.heap.objs.size := Heap.lt_size he
    have hil : it < s.heap.objs.size := by obtain ⟨_, q, _⟩ := hit; exact Heap.lt_size q
    have hlt : i < its.toArray.size := by
      have := (List.getElem?_eq_some_iff.mp hu).1
      simpa using this
    refine wpAny_pyNext_enum_itemD (Draws.tuple (A := X.A.in1) (I.ok.hd hc) it a hat its.toArray) he ⟨hit, p⟩ hlt hne (by simp [hne, Ne.symm hae]) fun y h' tk hy ho hit' hT hsz hk => ?_
    have hy' : its[i]? = some y := by simpa using hy
    rw [hu] at hy'
    cases hy'
    refine ⟨_, rfl, wpAny_letOwnedTupleGo_enum (s := { s with heap := h', toks := tk + 1 }) ho fun h'' he' sb => ?_⟩
    have hT2 : h''.get? s.heap.objs.size = some { cls := .type "tuple", data := .seq #[.int i tk, u] } := (sb.2 _ (Nat.ne_of_gt hel)).trans hT
    have new : ObjOk X.prog X.w (upd H s.heap.objs.size (.tup [.int (i : Nat), x])) h'' s.heap.objs.size (.tup [.int (i : Nat), x]) :=
      ⟨by show 2 ≤ sizeLine; decide, [.int i tk, u], .cons ⟨_, rfl⟩ (.cons ru .nil), ⟨_, hT2, rfl, _, rfl⟩⟩
    have I1 : Inv X pins σ (upd H s.heap.objs.size (.tup [.int (i : Nat), x])) { s with heap := h'', toks := tk + 1 } :=
      I.turnedNew (ch := [e, it]) (fun b ob hb q => (sb.2 b (fun z => hb (by simp [z]))).trans (hk b ob (fun z => hb (by simp [z])) (fun z => hb (by simp [z])) q)) hf (Nat.le_refl _) new
    refine ⟨.ref s.heap.objs.size, _, I1, rfl, ⟨_, x, rfl, I.hok.fresh (Nat.le_refl _), rfl, fun ys hy => by rw [I.tuple_inj hy hq]; exact hx⟩, ⟨⟨u, ?_⟩, hit'.1.at fun o q => (sb.2 it (Ne.symm hne)).trans q, hne⟩, fun b hb => ?_⟩
    · have e1 : ((i + 1 : Nat) : Int) = (i : Int) + 1 := by omega
      rw [e1]; exact he'
    · have hb' : b < s.heap.objs.size := by
        rcases (by simpa using hb : b = e ∨ b = it) with z | z <;> subst z
        · exact hel
        · exact hil
      rw [upd_ne (Nat.ne_of_lt hb')]
      exact (hf b hb).1
  done := by
    intro X hP hw hK hc i pins s σ H E I hf st hg
    subst hP hw hK
    obtain ⟨⟨old, he⟩, hit, hne⟩ := st
    obtain ⟨xs, hq, rfl⟩ := hg
    obtain ⟨its, rv, p, hz⟩ := I.tuple hq
    obtain ⟨f0, f1, f2, f3, f4, f5⟩ := hf it (by simp)
    have hl : xs.length = its.toArray.size := by simpa using rv.length
    rw [hl] at hit he
    exact wpAny_pyNext_enum_endD (Draws.tuple (A := X.A.in1) (I.ok.hd hc) it a hat its.toArray) he ⟨hit, p⟩ fun h' eb => ⟨rfl, I.turned (t' := s.toks) (fun b o hb q => eb b o hb q) f0 f1 f3 f4 f5⟩
  self := fun A i s Q E st h => let ⟨⟨_, he⟩, _⟩ := st; wpAny_pyIter_enum he h

/-! ### enumerate(x), zip(x, y) of lists and tuples -/
def iEnumA (K : PySem.W.Frag) (ta : TA) : TI := fun σ H R => ta σ H fun vs H1 => ∃ a, vs = [.ref a] ∧ ((∃ xs, SqL K H1 a xs ∧ R (Ite K a) H1) ∨ ∃ xs, SqT K H1 a xs ∧ R (IteT K a) H1)
theorem pi_enumA {X : Cx} {e : Expr} {ta : TA} {p pos tpos : Pos} {elts : List Expr} {kk : Nat} (hg : Gl X "enumerate") (hm : X.mg "enumerate" = none) (ha : PA X [e] ta) (hs : starEach [e] X.env = [(false, eval e X.env)] := by rfl) :
    PI X (.Tuple elts kk tpos) (.Call (.Name "enumerate" p) [e] [] pos) (iEnumA X.K ta) := by
  refine ⟨fun pins s σ H R I h => ?_⟩
  refine PyProof.Rows.Call_ (ld_blt I hg hm PyProof.Rows.boot_enumerate (PyProof.Rows.callWith_type1 (thn (ha.run pos pins s σ H _ I h) fun us s1 ⟨vs, H1, I1, r1, q1⟩ => ?_) hs rfl))
  obtain ⟨a, ex, q⟩ := q1
  subst ex
  cases r1 with
  | cons r rr =>
    cases rr
    cases r
    have fresh : ∀ b, b ∈ [s1.heap.objs.size + 1, s1.heap.objs.size] → FpOk X pins H1 b := fun b hb => by
      have hle : s1.heap.objs.size ≤ b := by
        rcases (by simpa using hb : b = s1.heap.objs.size + 1 ∨ b = s1.heap.objs.size) with z | z
        · rw [z]; exact Nat.le_add_right _ _
        · rw [z]; exact Nat.le_refl _
      exact I1.fpOk hle (I1.hok.fresh hle)
    rcases q with ⟨xs, hq, q⟩ | ⟨xs, hq, q⟩
    · obtain ⟨its, rv, p', hz⟩ := I1.list hq
      refine call_enumerate_list p'.isList fun h' he hit hsz hk => wpAny_pyIter_enum he ?_
      exact ⟨s1.heap.objs.size + 1, [s1.heap.objs.size + 1, s1.heap.objs.size], _, _, H1, rfl, I1.kept (t' := s1.toks) hk, turn_enum a (s1.heap.objs.size + 1) s1.heap.objs.size, ⟨⟨.none, he⟩, hit, Nat.succ_ne_self _⟩, fresh, q⟩
    · obtain ⟨its, rv, p', hz⟩ := I1.tuple hq
      obtain ⟨o1, ho1, _⟩ := id p'
      have hlt := Heap.lt_size ho1
      refine enumT_call (show s1.heap.IsTuple a its.toArray from p') fun h' he hit hk => wpAny_pyIter_enum he ?_
      exact ⟨s1.heap.objs.size + 1, [s1.heap.objs.size + 1, s1.heap.objs.size], _, _, H1, rfl, I1.kept (t' := s1.toks) hk, turn_enumT a (s1.heap.objs.size + 1) s1.heap.objs.size (Nat.ne_of_lt hlt) (Nat.ne_of_lt (Nat.lt_succ_of_lt hlt)), ⟨⟨.none, he⟩, hit, Nat.succ_ne_self _⟩, fresh, q⟩
/-- the items of a list or a tuple -/
def D.sq : D → Option (Bool × List D)
  | .lst ds => some (true, ds)
  | .scr ns => some (true, ns.map D.int)
  | .tup ds => some (false, ds)
  | .wtu ds => some (false, ds)
  | _ => none
section
variable {Z : ZX} {X : Cx} {K : PySem.W.Frag} {F H : Hp} {v : V} {pos : Pos}
theorem Fz.sqAt {d : D} {b : Bool} {ds : List D} (z : Fz K F v d) (h : d.sq = some (b, ds)) : ∃ a xs, v = .ref a ∧ (if b = true then SqL K F a xs else SqT K F a xs) ∧ Fzs K F xs ds := by
  cases z with
  | lst hx zs => cases h; exact ⟨_, _, rfl, SqL.of hx, zs⟩
  | scr hx => cases h; exact ⟨_, _, rfl, hx, Fzs.ints⟩
  | tup hx zs => cases h; exact ⟨_, _, rfl, SqT.of hx, zs⟩
  | wtu hx zs => cases h; exact ⟨_, _, rfl, .inr hx, zs⟩
  | _ => cases h
def enumD (ds : List D) : List D := ds.zipIdx.map fun p => .tup [.int p.2, p.1]
def zipD (xs ys : List D) : List D := (xs.zip ys).map fun p => .tup [p.1, p.2]
theorem enumD_get {ds : List D} {i : Nat} {d : D} (h : (enumD ds)[i]? = some d) : ∃ x, ds[i]? = some x ∧ d = .tup [.int i, x] := by
  unfold enumD at h
  rw [List.getElem?_map, List.getElem?_zipIdx] at h
  cases e : ds[i]? with
  | none => simp [e] at h
  | some x => simp [e] at h; exact ⟨x, rfl, h.symm⟩
theorem zipD_get {xs ys : List D} {i : Nat} {d : D} (h : (zipD xs ys)[i]? = some d) : ∃ x y, xs[i]? = some x ∧ ys[i]? = some y ∧ d = .tup [x, y] := by
  unfold zipD at h
  rw [List.getElem?_map] at h
  cases e : (xs.zip ys)[i]? with
  | none => simp [e] at h
  | some p =>
    simp [e] at h
    have := List.getElem?_zip_eq_some.mp e
    exact ⟨p.1, p.2, this.1, this.2, h.symm⟩
theorem enumD_len {ds : List D} : (enumD ds).length = ds.length := by simp [enumD]
theorem zipD_len {xs ys : List D} : (zipD xs ys).length = min xs.length ys.length := by simp [zipD]
theorem new_pair {T : Addr} {x y : V} {a b : D} (sb : Sub F H) (hT : H T = none) (zx : Fz K F x a) (zy : Fz K F y b) : ∃ F', Frm F H [] F' (upd H T (.tup [x, y])) [] ∧ Sub F' (upd H T (.tup [x, y])) ∧ Fz K F' (.ref T) (.tup [a, b]) := by
  obtain ⟨f, s, o⟩ := new_tup (K := K) sb hT (.cons zx (.cons zy .nil))
  cases o with
  | fz z => exact ⟨_, f, s, z⟩
theorem itd_enumL {a : Addr} {xs : List V} {ds : List D} : ItD K (Ite K a) (enumD ds) (fun F => SqL K F a xs ∧ Fzs K F xs ds) where
  mono := fun F F' s g => ⟨(Sub.of s).sqL g.1, g.2.mono (Sub.of s)⟩
  go := fun i F H sb g hi => by
    rw [enumD_len] at hi
    obtain ⟨x, hx, _⟩ := g.2.get (List.getElem?_eq_getElem hi)
    exact ⟨xs, x, sb.sqL g.1, hx⟩
  yld := fun i F H v H' d sb g hd hy => by
    obtain ⟨T, x, rfl, hT, rfl, hf⟩ := hy
    obtain ⟨e, he, rfl⟩ := enumD_get hd
    obtain ⟨y, hx, z⟩ := g.2.get he
    have := hf xs (sb.sqL g.1)
    rw [hx] at this
    cases this
    exact new_pair sb hT (.int _) z
  stop := fun F H sb g => ⟨xs, sb.sqL g.1, by rw [enumD_len, g.2.length]; exact Nat.le_refl _⟩
theorem itd_enumT {a : Addr} {xs : List V} {ds : List D} : ItD K (IteT K a) (enumD ds) (fun F => SqT K F a xs ∧ Fzs K F xs ds) where
  mono := fun F F' s g => ⟨(Sub.of s).sqT g.1, g.2.mono (Sub.of s)⟩
  go := fun i F H sb g hi => by
    rw [enumD_len] at hi
    obtain ⟨x, hx, _⟩ := g.2.get (List.getElem?_eq_getElem hi)
    exact ⟨xs, x, sb.sqT g.1, hx⟩
  yld := fun i F H v H' d sb g hd hy => by
    obtain ⟨T, x, rfl, hT, rfl, hf⟩ := hy
    obtain ⟨e, he, rfl⟩ := enumD_get hd
    obtain ⟨y, hx, z⟩ := g.2.get he
    have := hf xs (sb.sqT g.1)
    rw [hx] at this
    cases this
    exact new_pair sb hT (.int _) z
  stop := fun F H sb g => ⟨xs, sb.sqT g.1, by rw [enumD_len, g.2.length]⟩
theorem itd_zipL {a b : Addr} {xs ys : List V} {ds es : List D} : ItD K (Itz K a b) (zipD ds es) (fun F => (SqL K F a xs ∧ Fzs K F xs ds) ∧ SqL K F b ys ∧ Fzs K F ys es) where
  mono := fun F F' s g => ⟨⟨(Sub.of s).sqL g.1.1, g.1.2.mono (Sub.of s)⟩, (Sub.of s).sqL g.2.1, g.2.2.mono (Sub.of s)⟩
  go := fun i F H sb g hi => by
    rw [zipD_len] at hi
    obtain ⟨x, hx, _⟩ := g.1.2.get (List.getElem?_eq_getElem (i := i) (by omega))
    obtain ⟨y, hy, _⟩ := g.2.2.get (List.getElem?_eq_getElem (i := i) (by omega))
    exact ⟨xs, ys, x, y, sb.sqL g.1.1, sb.sqL g.2.1, hx, hy⟩
  yld := fun i F H v H' d sb g hd hy => by
    obtain ⟨T, x, y, rfl, hT, rfl, hf, hf2⟩ := hy
    obtain ⟨e, e2, he, he2, rfl⟩ := zipD_get hd
    obtain ⟨u, hx, z⟩ := g.1.2.get he
    obtain ⟨u2, hx2, z2⟩ := g.2.2.get he2
    have h1 := hf xs (sb.sqL g.1.1)
    have h2 := hf2 ys (sb.sqL g.2.1)
    rw [hx] at h1
    rw [hx2] at h2
    cases h1
    cases h2
    exact new_pair sb hT z z2
  stop := fun F H sb g => ⟨xs, ys, sb.sqL g.1.1, sb.sqL g.2.1, by rw [zipD_len, g.1.2.length, g.2.2.length]; omega⟩
theorem itd_zipT {a b : Addr} {xs ys : List V} {ds es : List D} : ItD K (RZ.ItzT K a b) (zipD ds es) (fun F => (SqT K F a xs ∧ Fzs K F xs ds) ∧ SqT K F b ys ∧ Fzs K F ys es) where
  mono := fun F F' s g => ⟨⟨(Sub.of s).sqT g.1.1, g.1.2.mono (Sub.of s)⟩, (Sub.of s).sqT g.2.1, g.2.2.mono (Sub.of s)⟩
  go := fun i F H sb g hi => by
    rw [zipD_len] at hi
    obtain ⟨x, hx, _⟩ := g.1.2.get (List.getElem?_eq_getElem (i := i) (by omega))
    obtain ⟨y, hy, _⟩ := g.2.2.get (List.getElem?_eq_getElem (i := i) (by omega))
    exact ⟨xs, ys, x, y, sb.sqT g.1.1, sb.sqT g.2.1, hx, hy⟩
  yld := fun i F H v H' d sb g hd hy => by
    obtain ⟨T, x, y, rfl, hT, rfl, hf, hf2⟩ := hy
    obtain ⟨e, e2, he, he2, rfl⟩ := zipD_get hd
    obtain ⟨u, hx, z⟩ := g.1.2.get he
    obtain ⟨u2, hx2, z2⟩ := g.2.2.get he2
    have h1 := hf xs (sb.sqT g.1.1)
    have h2 := hf2 ys (sb.sqT g.2.1)
    rw [hx] at h1
    rw [hx2] at h2
    cases h1
    cases h2
    exact new_pair sb hT z z2
  stop := fun F H sb g => ⟨xs, ys, sb.sqT g.1.1, sb.sqT g.2.1, by rw [zipD_len, g.1.2.length, g.2.2.length]; omega⟩
def mEnum (m : TDs) : TId := fun s R => m s fun ws s1 => tvs ws s1 fun ms s2 => ∃ y, ms = [y] ∧ ∃ q, y.frz.sq = some q ∧ R (enumD q.2) s2
def mZip (m : TDs) : TId := fun s R => m s fun ws s1 => tvs ws s1 fun ms s2 => ∃ x, ∃ y, ms = [x, y] ∧ ∃ p, x.frz.sq = some p ∧ ∃ q, y.frz.sq = some q ∧ p.1 = q.1 ∧ R (zipD p.2 q.2) s2
theorem one_eq {α : Type} {x : List α} {k : α → Prop} : (∃ y, x = [y] ∧ k y) = one x k .mk := by
  cases x with
  | nil => simp [one]
  | cons a r => cases r <;> simp [one]
theorem two_eq {α : Type} {x : List α} {k : α → α → Prop} : (∃ y z, x = [y, z] ∧ k y z) = two x k .mk := by
  cases x with
  | nil => simp [two]
  | cons a r =>
    cases r with
    | nil => simp [two]
    | cons b r =>
      cases r with
      | nil => exact propext ⟨fun ⟨_, _, e, h⟩ => by cases e; exact h, fun h => ⟨_, _, rfl, h⟩⟩
      | cons _ _ => simp [two]
theorem s_enum {m : TDs} {s : DSt} {R} : mEnum m s R = m s fun ws s1 => tvs ws s1 fun ms s2 => one ms (fun y => wD y.frz.sq (fun q => R (enumD q.2) s2) .mk) .mk := by
  have : ∀ (o : Option (Bool × List D)) (k : Bool × List D → Prop), (∃ q, o = some q ∧ k q) = wD o k .mk := fun o k => wD_eq
  unfold mEnum
  simp only [one_eq, this]
theorem s_zip {m : TDs} {s : DSt} {R} : mZip m s R = m s fun ws s1 => tvs ws s1 fun ms s2 => two ms (fun x y => wD x.frz.sq (fun p => wD y.frz.sq (fun q => p.1 = q.1 ∧ R (zipD p.2 q.2) s2) .mk) .mk) .mk := by
  have : ∀ (o : Option (Bool × List D)) (k : Bool × List D → Prop), (∃ q, o = some q ∧ k q) = wD o k .mk := fun o k => wD_eq
  unfold mZip
  simp only [two_eq, this]
theorem q_lst {ds : List D} : D.sq (.lst ds) = some (true, ds) := rfl
theorem q_scr {ds : List Int} : D.sq (.scr ds) = some (true, ds.map D.int) := rfl
theorem q_tup {ds : List D} : D.sq (.tup ds) = some (false, ds) := rfl
theorem q_wtu {ds : List D} : D.sq (.wtu ds) = some (false, ds) := rfl
theorem tvs_fzT {A A1 Av : List Addr} {σ : L2.St} {ws : List W} {vs : List V} {s1 : DSt} {F1 H1 : Hp} {Qm : List M → DSt → Prop} (o : Outs K F H A σ ws s1 vs F1 H1 Av A1) (h : tvs ws s1 Qm) : ∃ ms s2 F2 A2, Qm ms s2 ∧ OutT K F H A σ s2 F2 H1 A2 ∧ Fzs K F2 vs (ms.map M.frz) := by
  obtain ⟨ms, s2, F2, A2, h2, f, sb, z, ow, nd⟩ := tvs_fz o h
  exact ⟨ms, s2, F2, A2, h2, ⟨by simpa using f, sb, ow, by simpa using nd⟩, z⟩
theorem LiftI.enum {t : TA} {m : TDs} (l : Lifts Z t m) : LiftI Z (iEnumA Z.K t) (mEnum m) := by
  intro σ H F A s R Rd Re h k
  refine l σ H F A s _ _ Re h fun ws s1 vs F1 H1 Av A1 h1 o1 => ?_
  obtain ⟨ms, s2, F2, A2, ⟨y, rfl, q, hq, r⟩, o, z⟩ := tvs_fzT o1 h1
  obtain ⟨b, ds⟩ := q
  cases z with
  | cons z zz =>
    cases zz
    obtain ⟨a, xs, rfl, hs, zs⟩ := z.sqAt hq
    refine ⟨a, rfl, ?_⟩
    cases b with
    | true => exact .inl ⟨xs, o.sub.sqL (by simpa using hs), k _ _ _ _ _ _ _ r o itd_enumL ⟨by simpa using hs, zs⟩⟩
    | false => exact .inr ⟨xs, o.sub.sqT (by simpa using hs), k _ _ _ _ _ _ _ r o itd_enumT ⟨by simpa using hs, zs⟩⟩
theorem LiftI.zip {t : TA} {m : TDs} (l : Lifts Z t m) : LiftI Z (RZ.iZipA Z.K t) (mZip m) := by
  intro σ H F A s R Rd Re h k
  refine l σ H F A s _ _ Re h fun ws s1 vs F1 H1 Av A1 h1 o1 => ?_
  obtain ⟨ms, s2, F2, A2, ⟨x, y, rfl, p, hp, q, hq, hb, r⟩, o, z⟩ := tvs_fzT o1 h1
  obtain ⟨b, ds⟩ := p
  obtain ⟨b', es⟩ := q
  cases hb
  cases z with
  | cons z zz =>
    cases zz with
    | cons z2 zz =>
      cases zz
      obtain ⟨a, xs, rfl, hs, zs⟩ := z.sqAt hp
      obtain ⟨a2, ys, rfl, hs2, zs2⟩ := z2.sqAt hq
      refine ⟨a, a2, xs, ys, rfl, ?_⟩
      cases b with
      | true =>
        simp only [if_true] at hs hs2
        exact .inl ⟨o.sub.sqL hs, o.sub.sqL hs2, k _ _ _ _ _ _ _ r o itd_zipL ⟨⟨hs, zs⟩, hs2, zs2⟩⟩
      | false =>
        simp only [Bool.false_eq_true, if_false] at hs hs2
        exact .inr ⟨o.sub.sqT hs, o.sub.sqT hs2, k _ _ _ _ _ _ _ r o itd_zipT ⟨⟨hs, zs⟩, hs2, zs2⟩⟩
theorem di_enum {e : Expr} {p tpos : Pos} {elts : List Expr} {kk : Nat} {t : TA} {m : TDs} (hK : X.K = Z.K) (hg : Gl X "enumerate") (hm : X.mg "enumerate" = none) (ha : DA Z X [e] t m) (hs : starEach [e] X.env = [(false, eval e X.env)] := by rfl) : DI Z X (.Tuple elts kk tpos) (.Call (.Name "enumerate" p) [e] [] pos) (iEnumA Z.K t) (mEnum m) :=
  ⟨by rw [← hK]; exact pi_enumA hg hm ha.pa hs, .enum ha.lf⟩
theorem di_zip {e e2 : Expr} {p tpos : Pos} {elts : List Expr} {kk : Nat} {t : TA} {m : TDs} (hK : X.K = Z.K) (hg : Gl X "zip") (hm : X.mg "zip" = none) (ha : DA Z X [e, e2] t m)
    (hs : starEach [e, e2] X.env = (false, eval e X.env) :: starEach [e2] X.env := by rfl) (hpl : (backTo pos (starEach [e2] X.env)).any (·.1) = false := by rfl) : DI Z X (.Tuple elts kk tpos) (.Call (.Name "zip" p) [e, e2] [] pos) (RZ.iZipA Z.K t) (mZip m) :=
  ⟨by rw [← hK]; exact RZ.pi_zipA hg hm ha.pa hs hpl, .zip ha.lf⟩
end
end DL

namespace DL
open PySem PySem.Spec L2
section
variable {Z : ZX} {X : Cx} {K : PySem.W.Frag} {F H : Hp} {A : List Addr} {σ : L2.St} {s : DSt} {v : V} {pos : Pos}
theorem hu99 {k : Nat} (hr : Room k X.A) : X.A.units + 99 < cLine := by have := hr.un; omega
/-! ### x[i] = v, x an owned list at a name -/
def mSetI (i : Nat) (mi me : TD) : TSd := fun D s => me s fun w s1 => tv w s1 fun y s2 => (∃ ds, slotM s2 i = some (.ml ds)) ∧ mi s2 fun w2 s3 => ∃ k, res s3 w2 = some (.int k) ∧ ∃ ds, slotM s3 i = some (.ml ds) ∧ ∃ j, ixN ds.length k = some j ∧ D.nx (setM s3 i (.ml (ds.set j y.frz)))
theorem s_setI {i : Nat} {mi me : TD} {D : DEnds} : mSetI i mi me D s = me s fun w s1 => tv w s1 fun y s2 => hasL (slotM s2 i) ∧ mi s2 fun w2 s3 => wD (res s3 w2) (fun x => asI x (fun k => wD (slotM s3 i) (fun m => asL m (fun ds => wD (ixN ds.length k) (fun j => D.nx (setM s3 i (.ml (ds.set j y.frz)))) .mk) .mk) .mk) .mk) .mk := by
  have h3 : ∀ (o : Option Nat) (k : Nat → Prop), (∃ q, o = some q ∧ k q) = wD o k .mk := fun o k => wD_eq
  unfold mSetI
  simp only [hasL_eq, isI_eq, isL_eq, h3]
theorem LiftS.setI {i : Nat} {ti te : TE} {mi me : TD} (li : Lift Z ti mi) (le : Lift Z te me) : LiftS Z (tAsg te (gSub (tVar i) ti rSetL)) (mSetI i mi me) := by
  intro σ H F A s D Dd R h e
  refine le σ H F A s _ _ R h fun w s1 x F1 H1 Av A1 h1 o1 => ?_
  obtain ⟨y, s2, F2, A2, ⟨⟨ds0, e0⟩, q⟩, o, z⟩ := tv_fz o1 h1
  obtain ⟨sl0, es0, em0⟩ := slotM_at e0
  obtain ⟨a0, xs0, ev0, hH0, _⟩ := o.own.mutL o.nd o.sub es0 em0
  refine ⟨.ref a0, ev0, li σ H1 F2 A2 s2 _ _ (o.rel R) q fun w2 s3 kv F3 H3 A3v A3 q3 o3 => ?_⟩
  obtain ⟨k, ek, ds, e3, j, hj, q4⟩ := q3
  obtain ⟨sl, es, em⟩ := slotM_at e3
  have zk := o3.wow.view o3.sub o3.own ek
  have nd3 := nd_r o3.nd
  obtain ⟨a, xs, ev, hH, zs, kk⟩ := o3.own.mutL nd3 o3.sub es em
  rw [ev0] at ev
  cases ev
  cases zk with
  | int =>
    have z3 : Fz Z.K F3 x y.frz := z.mono (Sub.of o3.fr.fsub)
    obtain ⟨g, sb, ow⟩ := kk (xs.set j x) (ds.set j y.frz) (zs.set z3 j)
    refine ⟨a0, xs, k, j, rfl, rfl, hH, by rw [zs.length]; exact hj, ?_⟩
    have ow' : OwS Z.K F3 (upd H3 a0 (.lst (xs.set j x))) σ (setM s3 i (.ml (ds.set j y.frz))) A3 := by
      unfold setM
      rw [es]
      exact ow
    exact e.nx _ _ _ _ A3 ((o.trans o3.t).fr.trans0 g) sb ow' nd3 q4
theorem ds_setI {i : Nat} {x : Str} {e ix : Expr} {ti te : TE} {mi me : TD} {p tp : Pos} (hN : X.N[i]? = some x) (he : DE Z X e te me) (hi : DE Z X ix ti mi) (hv : Vis X.env.scope x := by first | exact Or.inl rfl | exact Or.inr (Or.inl rfl) | exact Or.inr (Or.inr rfl)) (hd : (x == ("__debug__" : Str)) = false := by decide) (hcd : (x == ("__classdict__" : Str)) = false := by decide)
    (hsub : ∀ v, assign (.Subscript (.Name x p) ix tp) X.env v = (do
      let ov ← holding [v] (eval (.Name x p) X.env)
      let iv ← holding [v, ov] (eval ix X.env)
      standAt tp
      holding [v, ov, iv] (setItem ov iv v)
      release [v, ov, iv] []) := by intro _; rfl)
    (hs : swapsWithSole [.Subscript (.Name x p) ix tp] e pos.line X.env = pure false := by rfl) (hw : swappedStores [.Subscript (.Name x p) ix tp] e X.env = pure none := by rfl) (h1 : (assignEach [.Subscript (.Name x p) ix tp] X.env).map (·.2) = [assign (.Subscript (.Name x p) ix tp) X.env] := by rfl) :
    DS Z X (.Assign [.Subscript (.Name x p) ix tp] e pos) (tAsg te (gSub (tVar i) ti rSetL)) (mSetI i mi me) :=
  ⟨ps_asg he.pe (pg_sub (pv i hN hv hd hcd) hi.pe set_list hsub) hs hw h1, .setI hi.lf he.lf⟩
/-! ### in, not in -/
def okIn (x : D) (ds : List D) : Prop := x.py.canLay0 = true ∧ PyData.canLayAll0 (D.pys ds) = true ∧ x.py.depth ≤ 64
def memD (x : D) (ds : List D) : Bool := ds.any fun e => PyData.eqv e.py x.py
theorem memD_pys {x : D} : ∀ {ds : List D}, (D.pys ds).any (fun e => PyData.eqv e x.py) = memD x ds
  | [] => rfl
  | d :: ds => by
    unfold memD
    rw [D.pys, List.any_cons, List.any_cons]
    congr 1
    exact memD_pys
def rInA (K : PySem.W.Frag) (f : Bool → Bool) : R2 := fun x y H Q => ((∃ d ds, Dp K H x d ∧ (Dp K H y (.list ds) ∨ Dp K H y (.tuple ds)) ∧ d.canLay0 = true ∧ PyData.canLayAll0 ds = true ∧ d.depth ≤ 64 ∧ Q (.bl (f (ds.any fun z => PyData.eqv z d))) H) ∨ ∃ i j, x = .str i ∧ y = .str j ∧ Q (.bl (f (!(Builtin.Str.occurrences j i 0 j.length 1).isEmpty))) H) ∨ ∃ a o, y = .ref a ∧ DGet H a x o ∧ Q (.bl (f o.isSome)) H
theorem op_inA (hK : X.K = K) (hu : X.A.units + 99 < cLine) : OpR X (compareOp .In) (rInA K id) := by
  subst hK
  refine OpR.or2 (OpR.or2 ?_ op_in_str) ?_
  · intro pins s σ H x y v u Q I rx ry h
    obtain ⟨d, ds, hd, he, c1, c2, hdp, q⟩ := h
    obtain ⟨as, r1⟩ := Dp.reads I d x v hd rx
    have hm : X.A.units + 1 + min (PyData.depthAll ds) d.depth < cLine := by
      have := Nat.min_le_right (PyData.depthAll ds) d.depth
      omega
    rcases he with he | he
    · obtain ⟨bs, r2⟩ := Dp.reads I (.list ds) y u he ry
      exact SeqAt.in_list_reads r2 r1 c2 c1 hm ⟨.bl _, H, I, rfl, q⟩
    · obtain ⟨bs, r2⟩ := Dp.reads I (.tuple ds) y u he ry
      exact SeqAt.in_tuple_reads r2 r1 c2 c1 hm ⟨.bl _, H, I, rfl, q⟩
  · intro pins s σ H x y v u Q I rx ry h
    obtain ⟨a, o, rfl, g, q⟩ := h
    cases ry
    exact d_in (by omega) I g rx fun s' I' => ⟨.bl _, H, I', rfl, q⟩
theorem op_notInA (hK : X.K = K) (hu : X.A.units + 99 < cLine) : OpR X (compareOp .NotIn) (rInA K (!·)) := by
  subst hK
  refine OpR.or2 (OpR.or2 ?_ op_notIn_str) ?_
  · intro pins s σ H x y v u Q I rx ry h
    obtain ⟨d, ds, hd, he, c1, c2, hdp, q⟩ := h
    obtain ⟨as, r1⟩ := Dp.reads I d x v hd rx
    have hm : X.A.units + 1 + min (PyData.depthAll ds) d.depth < cLine := by
      have := Nat.min_le_right (PyData.depthAll ds) d.depth
      omega
    rcases he with he | he
    · obtain ⟨bs, r2⟩ := Dp.reads I (.list ds) y u he ry
      exact SeqAt.notIn_list_reads r2 r1 c2 c1 hm ⟨.bl _, H, I, rfl, q⟩
    · obtain ⟨bs, r2⟩ := Dp.reads I (.tuple ds) y u he ry
      exact SeqAt.notIn_tuple_reads r2 r1 c2 c1 hm ⟨.bl _, H, I, rfl, q⟩
  · intro pins s σ H x y v u Q I rx ry h
    obtain ⟨a, o, rfl, g, q⟩ := h
    cases ry
    exact d_notIn (by omega) I g rx fun s' I' => ⟨.bl _, H, I', rfl, q⟩
/-- the answer of in -/
def inD : D → D → Bool → Prop
  | x, .lst ds, b => okIn x ds ∧ b = memD x ds
  | x, .tup ds, b => okIn x ds ∧ b = memD x ds
  | x, .wtu ds, b => okIn x ds ∧ b = memD x ds
  | .str i, .str j, b => b = !(Builtin.Str.occurrences j i 0 j.length 1).isEmpty
  | x, .dic kvs, b => ∃ o, D.look (.dic kvs) x o ∧ b = o.isSome
  | x, .dit kvs, b => ∃ o, D.look (.dit kvs) x o ∧ b = o.isSome
  | _, _, _ => False
def dIn (f : Bool → Bool) : D → D → M → Prop := fun x y z => ∃ b, inD x y b ∧ z = .fz (.bl (f b))
theorem od_inF {f : Bool → Bool} : OpD K (rInA K f) (dIn f) := by
  intro F H x y m1 m2 B1 B2 z Q sb w1 w2 ⟨b, hz, e⟩ k
  subst e
  have fin : ∀ c, c = f b → Q (.bl c) H := fun c e => by subst e; exact k _ F H [] Frm.refl sb (.fz (.bl _)) List.nodup_nil
  generalize e1 : m1.frz = d1 at hz
  generalize e2 : m2.frz = d2 at hz
  have z1 := w1.view sb
  have z2 := w2.view sb
  rw [e1] at z1
  rw [e2] at z2
  have seq : ∀ ds, (d2.py = .list (D.pys ds) ∨ d2.py = .tuple (D.pys ds)) → okIn d1 ds → b = memD d1 ds → rInA K f x y H Q := fun ds h2 ok hb => by
    refine .inl (.inl ⟨d1.py, D.pys ds, z1.dp ok.1, ?_, ok.1, ok.2.1, ok.2.2, fin _ (by rw [memD_pys, hb])⟩)
    rcases h2 with h2 | h2
    · exact .inl (h2 ▸ z2.dp (by rw [h2]; exact ok.2.1))
    · exact .inr (h2 ▸ z2.dp (by rw [h2]; exact ok.2.1))
  cases d2 with
  | lst ds => unfold inD at hz; exact seq ds (.inl rfl) hz.1 hz.2
  | tup ds => unfold inD at hz; exact seq ds (.inr rfl) hz.1 hz.2
  | wtu ds => unfold inD at hz; exact seq ds (.inr rfl) hz.1 hz.2
  | str j =>
    cases d1 with
    | str i => unfold inD at hz; cases z1; cases z2; exact .inl (.inr ⟨i, j, rfl, rfl, fin _ (by rw [hz])⟩)
    | _ => exact hz.elim
  | dic kvs =>
    obtain ⟨o, ho, rfl⟩ : ∃ o, D.look (.dic kvs) d1 o ∧ b = o.isSome := by cases d1 <;> exact hz
    obtain ⟨a, ov, rfl, g, oz⟩ := dget_ok sb w2 w1 e2 e1 ho
    exact .inr ⟨a, ov, rfl, g, fin _ (by cases ov <;> cases o <;> first | rfl | exact oz.elim)⟩
  | dit kvs =>
    obtain ⟨o, ho, rfl⟩ : ∃ o, D.look (.dit kvs) d1 o ∧ b = o.isSome := by cases d1 <;> exact hz
    obtain ⟨a, ov, rfl, g, oz⟩ := dget_ok sb w2 w1 e2 e1 ho
    exact .inr ⟨a, ov, rfl, g, fin _ (by cases ov <;> cases o <;> first | rfl | exact oz.elim)⟩
  | _ => cases d1 <;> exact hz.elim
theorem od_in : OpD K (rInA K id) (dIn id) := od_inF
theorem od_notin : OpD K (rInA K (!·)) (dIn (!·)) := od_inF
/-! ### sorted(list) -/
open PySem.W in
def okSort (ds : List D) : Prop := AllAlike (ds.map D.py) ∧ PySem.W.Sortable (ds.map D.py) ∧ ∀ d ∈ ds, d.py.canLay0 = true ∧ d.py.depth ≤ 64
def sortD (ds : List D) : List D := ds.mergeSort (PySem.W.dataLe false D.py)
theorem vals_each (F : Hp) : ∀ {xs : List V} {us : List Value} {ds : List D}, Vals xs us → Fzs K F xs ds → PySem.W.EachIs (fun v b => ∃ x, RelV x v ∧ Fz K F x b) us ds
  | _, _, _, .nil, .nil => .nil
  | _, _, _, .cons r rr, .cons z zz => .cons ⟨_, r, z⟩ (vals_each F rr zz)
theorem each_vals (F : Hp) : ∀ {us : List Value} {ds : List D}, PySem.W.EachIs (fun v b => ∃ x, RelV x v ∧ Fz K F x b) us ds → ∃ xs, Vals xs us ∧ Fzs K F xs ds
  | _, _, .nil => ⟨[], .nil, .nil⟩
  | _, _, .cons ⟨x, r, z⟩ h => by
    obtain ⟨xs, rr, zz⟩ := each_vals F h
    exact ⟨x :: xs, .cons r rr, .cons z zz⟩
def rSortD (K : PySem.W.Frag) : List V → Hp → VK → Prop := fun vs H Q => ∃ (F : Hp) (a : Addr) (xs : List V) (ds : List D), vs = [.ref a] ∧ Sub F H ∧ SqL K H a xs ∧ Fzs K F xs ds ∧ okSort ds ∧ ∀ xs' p, Fzs K F xs' (sortD ds) → H p = none → Q (.ref p) (upd H p (.lst xs'))
theorem call_sortD (hK : X.K = K) (hu : X.A.units + 99 < cLine) : CallR X (.builtin "sorted") (rSortD K) := by
  subst hK
  intro pins s σ H vs us Q I r h
  obtain ⟨F, a, xs, ds, rfl, sb, hs, zs, ok, q⟩ := h
  obtain ⟨its, rv, hl, hz⟩ := I.list hs
  rw [Vals.ref1 r]
  have e := vals_each F rv zs
  have er : PySem.W.EachIs (fun v b => ∃ as, Reads s.heap v (D.py b) as) its ds := (PySem.W.each_mem e).mono fun v b h => by
    obtain ⟨⟨x, rx, zx⟩, hb⟩ := h
    exact Dp.reads I b.py x v ((zx.mono sb).dp (ok.2.2 b hb).1) rx
  refine PySem.W.sorted_data hl.isList e er ok.1 ok.2.1 (by rw [← zs.length]; exact hz) (fun b hb => ?_) fun out ho eo => ?_
  · have := (ok.2.2 b hb).2
    omega
  obtain ⟨xs', rv', zs'⟩ := each_vals F eo
  obtain ⟨ep, he'⟩ := PyProof.Rows.sortedAll_at s.heap its out.toArray
  have hlen : xs'.length ≤ sizeLine := by
    rw [rv'.length, ho, ← zs.length]
    exact hz
  exact ⟨.ref _, upd H (s.heap.objs.size + 1) (.lst xs'), I.laid (t' := s.toks) (fun _ _ => PyProof.Rows.sortedAll_old) (Nat.le_succ _) ⟨hlen, out, ep, rv', he'⟩, rfl, q _ _ zs' (I.hok.fresh (Nat.le_succ _))⟩
def dSort : D → M → Prop
  | .lst ds, z => okSort ds ∧ z = .ml (sortD ds)
  | _, _ => False
theorem cd_sort : CallD K (rSortD K) (f1 dSort) := CallD.one fun F H x m B z Q sb w hz k => by
  generalize e : m.frz = d at hz
  cases d with
  | lst ds =>
    obtain ⟨ok, rfl⟩ := hz
    obtain ⟨a, xs, rfl, hH, zs⟩ := w.lstV sb e
    refine ⟨F, a, xs, ds, rfl, sb, SqL.of hH, zs, ok, fun xs' p zs' hp => ?_⟩
    obtain ⟨g, s2, o⟩ := new_lst (K := K) sb hp zs'
    exact k _ _ _ _ g s2 o (by simp)
  | _ => exact hz.elim
theorem o_sort {ds : List D} {k l} : opz (dSort (.lst ds)) k l = (okSort ds ∧ k (.ml (sortD ds))) := opz_and _ rfl
theorem o_inL {f : Bool → Bool} {x : D} {ds : List D} {k l} : opz (dIn f x (.lst ds)) k l = (okIn x ds ∧ k (.fz (.bl (f (memD x ds))))) := opz_and _ (by
  funext z
  refine propext ⟨?_, fun ⟨h, e⟩ => ⟨memD x ds, ?_, e⟩⟩
  · rintro ⟨b, hb, rfl⟩
    have : okIn x ds ∧ b = memD x ds := by cases x <;> exact hb
    exact ⟨this.1, by rw [this.2]⟩
  · cases x <;> exact ⟨h, rfl⟩)
theorem o_inT {f : Bool → Bool} {x : D} {ds : List D} {k l} : opz (dIn f x (.tup ds)) k l = (okIn x ds ∧ k (.fz (.bl (f (memD x ds))))) := opz_and _ (by
  funext z
  refine propext ⟨?_, fun ⟨h, e⟩ => ⟨memD x ds, ?_, e⟩⟩
  · rintro ⟨b, hb, rfl⟩
    have : okIn x ds ∧ b = memD x ds := by cases x <;> exact hb
    exact ⟨this.1, by rw [this.2]⟩
  · cases x <;> exact ⟨h, rfl⟩)
end
end DL

namespace DL
open PySem PySem.Spec L2

/-! ### plain data as D -/
structure Enc {α : Type} (n : Nat) (e : α → D) (ok : α → Prop) : Prop where
  can : ∀ a, ok a → (e a).py.canLay0 = true
  dep : ∀ a, ok a → (e a).py.depth ≤ n
  eqv : ∀ a b, ok a → ok b → (PyData.eqv (e a).py (e b).py = true ↔ a = b)
section
variable {α β : Type} {n : Nat} {e : α → D} {ok : α → Prop}
theorem Enc.int : Enc 0 D.int (fun _ => True) := ⟨fun _ _ => rfl, fun _ _ => Nat.le_refl _, fun a b _ _ => by simp [D.py, PyData.eqv]⟩
theorem Enc.str : Enc 0 D.str (fun x => PyData.canLay0 (.str x) = true) := ⟨fun _ h => h, fun _ _ => Nat.le_refl _, fun a b _ _ => by simp [D.py, PyData.eqv]⟩
theorem Enc.mono {m : Nat} (h : Enc n e ok) (hm : n ≤ m) : Enc m e ok := ⟨h.can, fun a o => Nat.le_trans (h.dep a o) hm, h.eqv⟩
theorem pys_map : ∀ (l : List α), D.pys (l.map e) = l.map fun a => (e a).py
  | [] => rfl
  | a :: l => by simp [D.pys, pys_map l]
theorem Enc.canAll (h : Enc n e ok) : ∀ (l : List α), (∀ a ∈ l, ok a) → PyData.canLayAll0 (D.pys (l.map e)) = true
  | [], _ => rfl
  | a :: l, g => by
    simp only [List.map_cons, D.pys, PyData.canLayAll0, Bool.and_eq_true]
    exact ⟨h.can a (g a (by simp)), h.canAll l fun b hb => g b (by simp [hb])⟩
theorem Enc.depAll (h : Enc n e ok) : ∀ (l : List α), (∀ a ∈ l, ok a) → PyData.depthAll (D.pys (l.map e)) ≤ n
  | [], _ => Nat.zero_le _
  | a :: l, g => by
    simp only [List.map_cons, D.pys, PyData.depthAll]
    exact Nat.max_le.mpr ⟨h.dep a (g a (by simp)), h.depAll l fun b hb => g b (by simp [hb])⟩
theorem Enc.eqvAll (h : Enc n e ok) : ∀ (l m : List α), (∀ a ∈ l, ok a) → (∀ a ∈ m, ok a) → (PyData.eqvAll (D.pys (l.map e)) (D.pys (m.map e)) = true ↔ l = m)
  | [], [], _, _ => by simp [D.pys, PyData.eqvAll]
  | [], _ :: _, _, _ => by simp [D.pys, PyData.eqvAll]
  | _ :: _, [], _, _ => by simp [D.pys, PyData.eqvAll]
  | a :: l, b :: m, g, k => by
    simp only [List.map_cons, D.pys, PyData.eqvAll, Bool.and_eq_true, List.cons.injEq]
    rw [h.eqv a b (g a (by simp)) (k b (by simp)), h.eqvAll l m (fun c hc => g c (by simp [hc])) fun c hc => k c (by simp [hc])]
theorem Enc.tups (h : Enc n e ok) : Enc (n + 1) (fun l : List α => .tup (l.map e)) (fun l => ∀ a ∈ l, ok a) :=
  ⟨fun l g => h.canAll l g, fun l g => Nat.succ_le_succ (h.depAll l g), fun l m g k => h.eqvAll l m g k⟩
theorem Enc.lsts (h : Enc n e ok) : Enc (n + 1) (fun l : List α => .lst (l.map e)) (fun l => ∀ a ∈ l, ok a) :=
  ⟨fun l g => h.canAll l g, fun l g => Nat.succ_le_succ (h.depAll l g), fun l m g k => h.eqvAll l m g k⟩
theorem Enc.pair {m : Nat} {e' : β → D} {ok' : β → Prop} (h : Enc n e ok) (h' : Enc m e' ok') : Enc (max n m + 1) (fun p : α × β => .tup [e p.1, e' p.2]) (fun p => ok p.1 ∧ ok' p.2) := by
  refine ⟨fun p g => ?_, fun p g => ?_, fun p q g k => ?_⟩
  · simp only [D.py, D.pys, PyData.canLay0, PyData.canLayAll0, Bool.and_eq_true]
    exact ⟨h.can _ g.1, h'.can _ g.2, trivial⟩
  · simp only [D.py, D.pys, PyData.depth, PyData.depthAll]
    have := h.dep _ g.1
    have := h'.dep _ g.2
    omega
  · simp only [D.py, D.pys, PyData.eqv, PyData.eqvAll, Bool.and_eq_true, h.eqv _ _ g.1 k.1, h'.eqv _ _ g.2 k.2]
    constructor
    · intro r; exact Prod.ext r.1 r.2.1
    · rintro rfl; exact ⟨rfl, rfl, trivial⟩
theorem Enc.shaped (h : Enc n e ok) (hn : n ≤ 64) (a : α) (g : ok a) : SeqAt.shaped (e a).py = true := by
  unfold SeqAt.shaped
  rw [Bool.and_eq_true]
  exact ⟨h.can a g, by have := h.dep a g; simp; omega⟩
theorem Enc.eqB [DecidableEq α] (h : Enc n e ok) (a b : α) (g : ok a) (k : ok b) : PyData.eqv (e a).py (e b).py = decide (a = b) := by
  have := h.eqv a b g k
  by_cases hab : a = b
  · rw [this.mpr hab]; simp [hab]
  · have : PyData.eqv (e a).py (e b).py ≠ true := fun q => hab (this.mp q)
    simp [hab, this]
theorem Enc.eq [DecidableEq α] (h : Enc n e ok) (hn : n ≤ 64) (a b : α) (g : ok a) (k : ok b) : dEq (e a) (e b) (.fz (.bl (decide (a = b)))) :=
  ⟨_, .inr ⟨h.shaped hn a g, h.shaped hn b k, rfl⟩, by rw [h.eqB a b g k]⟩
theorem Enc.ne [DecidableEq α] (h : Enc n e ok) (hn : n ≤ 64) (a b : α) (g : ok a) (k : ok b) : dNe (e a) (e b) (.fz (.bl (!decide (a = b)))) :=
  ⟨_, .inr ⟨h.shaped hn a g, h.shaped hn b k, rfl⟩, by rw [h.eqB a b g k]⟩
theorem Enc.mem [DecidableEq α] (h : Enc n e ok) (a : α) : ∀ l : List α, ok a → (∀ b ∈ l, ok b) → memD (e a) (l.map e) = decide (a ∈ l)
  | [], _, _ => by simp [memD]
  | b :: l, g, k => by
    have ih := h.mem a l g fun c hc => k c (by simp [hc])
    unfold memD at ih ⊢
    rw [List.map_cons, List.any_cons, ih, h.eqB b a (k b (by simp)) g]
    by_cases hb : b = a
    · simp [hb]
    · have hb' : ¬ a = b := fun q => hb q.symm
      simp [hb, hb']
theorem Enc.okIn (h : Enc n e ok) (hn : n ≤ 64) (a : α) (l : List α) (g : ok a) (k : ∀ b ∈ l, ok b) : okIn (e a) (l.map e) :=
  ⟨h.can a g, h.canAll l k, Nat.le_trans (h.dep a g) hn⟩
end
theorem dEq_ii {i j : Int} {z : M} : dEq (.int i) (.int j) z = (z = .fz (.bl (decide (i = j)))) := by
  refine propext ⟨?_, fun h => h ▸ Enc.int.eq (by decide) i j trivial trivial⟩
  rintro ⟨b, hb, rfl⟩
  rcases hb with hb | ⟨_, _, rfl⟩
  · simp [D.eqS] at hb; rw [hb]
  · rw [Enc.int.eqB i j trivial trivial]
theorem dNe_ii {i j : Int} {z : M} : dNe (.int i) (.int j) z = (z = .fz (.bl (!decide (i = j)))) := by
  refine propext ⟨?_, fun h => h ▸ Enc.int.ne (by decide) i j trivial trivial⟩
  rintro ⟨b, hb, rfl⟩
  rcases hb with hb | ⟨_, _, rfl⟩
  · simp [D.eqS] at hb; rw [hb]
  · rw [Enc.int.eqB i j trivial trivial]
theorem dEq_str {i j : Str} : dEq (.str i) (.str j) (.fz (.bl (decide (i = j)))) := ⟨_, .inl rfl, rfl⟩
theorem dNe_str {i j : Str} : dNe (.str i) (.str j) (.fz (.bl (!decide (i = j)))) := ⟨_, .inl rfl, rfl⟩
theorem o_eqI {i j : Int} {k l} : opz (dEq (.int i) (.int j)) k l = k (.fz (.bl (decide (i = j)))) := opz_one _ (by funext z; exact dEq_ii)
theorem o_neI {i j : Int} {k l} : opz (dNe (.int i) (.int j)) k l = k (.fz (.bl (!decide (i = j)))) := opz_one _ (by funext z; exact dNe_ii)
/-! ### sorted lists of tuples of ints -/
def tupI (l : List Int) : D := .tup (l.map .int)
theorem Enc.tupI : Enc 1 DL.tupI (fun _ => True) := ⟨fun a _ => Enc.int.tups.can a fun _ _ => trivial, fun a _ => Enc.int.tups.dep a fun _ _ => trivial, fun a b _ _ => Enc.int.tups.eqv a b (fun _ _ => trivial) fun _ _ => trivial⟩
theorem alike_tupI (x y : List Int) : PySem.W.alike (tupI x).py (tupI y).py = true := by
  have := PySem.W.alike_ints x y
  unfold tupI
  simp only [D.py]
  rw [pys_map, pys_map]
  simp only [D.py, PySem.W.alike]
  exact this
theorem okSort_tups {ls : List (List Int)} (h : ∀ l ∈ ls, l ≠ []) : okSort (ls.map tupI) := by
  refine ⟨?_, .inl ?_, ?_⟩
  · intro d hd d' hd'
    simp only [List.map_map, List.mem_map, Function.comp] at hd hd'
    obtain ⟨x, _, rfl⟩ := hd
    obtain ⟨y, _, rfl⟩ := hd'
    exact alike_tupI x y
  · intro d hd
    simp only [List.map_map, List.mem_map, Function.comp] at hd
    obtain ⟨x, hx, rfl⟩ := hd
    cases x with
    | nil => exact absurd rfl (h _ hx)
    | cons a r => exact ⟨.int a, D.pys (r.map .int), rfl⟩
  · intro d hd
    obtain ⟨x, hx, rfl⟩ := List.mem_map.mp hd
    exact ⟨Enc.tupI.can x trivial, Nat.le_trans (Enc.tupI.dep x trivial) (by decide)⟩
theorem dataLe_tupI (x y : List Int) : PySem.W.dataLe false D.py (tupI x) (tupI y) = decide (x ≤ y) := by
  rw [PySem.W.dataLe_eq]
  show (!PySem.W.dataLt (tupI y).py (tupI x).py) = _
  have e : ∀ l : List Int, (tupI l).py = .tuple (l.map .int) := fun l => by
    unfold tupI
    simp only [D.py]
    rw [pys_map]
    rfl
  rw [e, e, PySem.W.dataLt_tuple]
  show (!PySem.W.rowLt (y.map .int) (x.map .int)) = _
  rw [PySem.W.dataLt_ints]
  by_cases h : y < x
  · have h' : ¬ x ≤ y := fun r => List.not_lt.mpr r h
    simp [h, h']
  · have h' : x ≤ y := List.not_lt.mp h
    simp [h, h']
theorem sortD_tups (ls : List (List Int)) : sortD (ls.map tupI) = (ls.mergeSort fun x y => decide (x ≤ y)).map tupI := by
  unfold sortD
  exact (List.map_mergeSort fun a _ b _ => (dataLe_tupI a b).symm).symm
end DL

namespace DL
open PySem PySem.Spec L2

/-! ### own dicts -/
def putD {κ : Type} [DecidableEq κ] (kvs : List (κ × D)) (k : κ) (d : D) : List (κ × D) :=
  if (kvs.any fun kv => decide (kv.1 = k)) = true then kvs.map (fun kv => if kv.1 = k then (kv.1, d) else kv) else kvs ++ [(k, d)]
section
variable {Z : ZX} {X : Cx} {K : PySem.W.Frag} {F H : Hp} {A : List Addr} {σ : L2.St} {s : DSt} {v : V} {d : D} {pos : Pos}
theorem Fzk.any {k : Key} : ∀ {kvs : List (Key × V)} {ds : List (Key × D)}, Fzk K F kvs ds → (kvs.any fun kv => decide (kv.1 = k)) = ds.any fun kv => decide (kv.1 = k)
  | _, _, .nil => rfl
  | _, _, .cons z r => by rw [List.any_cons, List.any_cons, Fzk.any r]
theorem Fzk.repl {k : Key} (zv : Fz K F v d) : ∀ {kvs : List (Key × V)} {ds : List (Key × D)}, Fzk K F kvs ds → Fzk K F (kvs.map fun kv => if kv.1 = k then (kv.1, v) else kv) (ds.map fun kv => if kv.1 = k then (kv.1, d) else kv)
  | _, _, .nil => .nil
  | _, _, .cons (k := j) z r => by
    rw [List.map_cons, List.map_cons]
    by_cases h : j = k
    · simp only [h, if_true]; exact .cons zv (Fzk.repl zv r)
    · simp only [h, if_false]; exact .cons z (Fzk.repl zv r)
theorem Fzk.app {k : Key} (zv : Fz K F v d) : ∀ {kvs : List (Key × V)} {ds : List (Key × D)}, Fzk K F kvs ds → Fzk K F (kvs ++ [(k, v)]) (ds ++ [(k, d)])
  | _, _, .nil => .cons zv .nil
  | _, _, .cons z r => .cons z (Fzk.app zv r)
theorem Fzk.put {k : Key} {kvs : List (Key × V)} {ds : List (Key × D)} (z : Fzk K F kvs ds) (zv : Fz K F v d) : Fzk K F (putK kvs k v) (putD ds k d) := by
  unfold putK putD
  rw [z.any]
  split
  · exact z.repl zv
  · exact z.app zv
theorem Fzt.any {k : List Key} : ∀ {kvs : List (List Key × V)} {ds : List (List Key × D)}, Fzt K F kvs ds → (kvs.any fun kv => decide (kv.1 = k)) = ds.any fun kv => decide (kv.1 = k)
  | _, _, .nil => rfl
  | _, _, .cons z r => by rw [List.any_cons, List.any_cons, Fzt.any r]
theorem Fzt.repl {k : List Key} (zv : Fz K F v d) : ∀ {kvs : List (List Key × V)} {ds : List (List Key × D)}, Fzt K F kvs ds → Fzt K F (kvs.map fun kv => if kv.1 = k then (kv.1, v) else kv) (ds.map fun kv => if kv.1 = k then (kv.1, d) else kv)
  | _, _, .nil => .nil
  | _, _, .cons (k := j) z r => by
    rw [List.map_cons, List.map_cons]
    by_cases h : j = k
    · simp only [h, if_true]; exact .cons zv (Fzt.repl zv r)
    · simp only [h, if_false]; exact .cons z (Fzt.repl zv r)
theorem Fzt.app {k : List Key} (zv : Fz K F v d) : ∀ {kvs : List (List Key × V)} {ds : List (List Key × D)}, Fzt K F kvs ds → Fzt K F (kvs ++ [(k, v)]) (ds ++ [(k, d)])
  | _, _, .nil => .cons zv .nil
  | _, _, .cons z r => .cons z (Fzt.app zv r)
theorem Fzt.put {k : List Key} {kvs : List (List Key × V)} {ds : List (List Key × D)} (z : Fzt K F kvs ds) (zv : Fz K F v d) : Fzt K F (putK kvs k v) (putD ds k d) := by
  unfold putK putD
  rw [z.any]
  split
  · exact z.repl zv
  · exact z.app zv
theorem Fzt.length : ∀ {kvs : List (List Key × V)} {ds : List (List Key × D)}, Fzt K F kvs ds → kvs.length = ds.length
  | _, _, .nil => rfl
  | _, _, .cons z r => by rw [List.length_cons, List.length_cons, r.length]
/-- a key stays a key -/
theorem Fzs.keyN {F1 F' H' : Hp} {A' : List Addr} (g : Frm F1 H [] F' H' A') : ∀ {vs : List V} {ds : List D} {ks : List Key}, Fzs K H vs ds → D.keys ds = some ks → Fzs K H' vs ds
  | _, _, _, .nil, _ => .nil
  | _, _, _, .cons (d := d) (ds := ds) z r, h => by
    cases e : d.key with
    | none => simp [D.keys, e] at h
    | some k =>
      cases e2 : D.keys ds with
      | none => simp [D.keys, e, e2] at h
      | some ks =>
        refine .cons ?_ (Fzs.keyN g r e2)
        cases z with
        | int i => exact .int i
        | str x => exact .str x
        | _ => simp [D.key] at e
/-- the dict behind a store -/
def dput : M → D → D → Option M
  | .md kvs, x, d => x.key.map fun j => .md (putD kvs j d)
  | .mt kvs, .tup ks, d => (D.keys ks).map fun js => .mt (putD kvs js d)
  | _, _, _ => none
theorem keyN_of {F1 F' H' : Hp} {A' : List Addr} {m m' : M} {x y : D} {kv : V} (g : Frm F1 H [] F' H' A') (z : Fz K H kv x) (h : dput m x y = some m') : Fz K H' kv x := by
  cases m with
  | md kvs =>
    simp only [dput, Option.map_eq_some_iff] at h
    obtain ⟨j, ej, _⟩ := h
    cases z with
    | int i => exact .int i
    | str x => exact .str x
    | _ => simp [D.key] at ej
  | mt kvs =>
    cases z with
    | tup hb zs =>
      simp only [dput, Option.map_eq_some_iff] at h
      obtain ⟨js, ej, _⟩ := h
      exact .tup (g.keep _ _ hb (by simp) (fun ps e => by cases e)) (zs.keyN g ej)
    | _ => simp [dput] at h
  | _ => simp [dput] at h
def M.small : M → Prop
  | .md kvs => kvs.length < sizeLine
  | .mt kvs => kvs.length < sizeLine
  | _ => False
def M.isD : M → Prop
  | .md _ => True
  | .mt _ => True
  | _ => False
/-- an own dict is written -/
theorem OwS.mutD {i : Nat} {sl : Slot} {m m' : M} {x : D} {y : D} {kv yv : V} (ow : OwS K F H σ s A) (nd : A.Nodup) (sb : Sub F H) (es : s[i]? = some sl) (em : sl.m? = some m) (hsm : m.small) (hp : dput m x y = some m') (zk : Fz K H kv x) (zy : Fz K F yv y) :
    ∃ a H', σ[i]? = some (some (.ref a)) ∧ DPut H a kv yv H' ∧ Frm F H A F H' A ∧ Sub F H' ∧ OwS K F H' σ (s.set i (sl.put m')) A := by
  obtain ⟨x0, B, C, E, ex, o, hA, kk⟩ := ow.split es em
  subst hA
  have fin : ∀ (a : Addr) (u o0 : HO), B = [a] → F a = none → H a = some o0 → Dt o0 → Ow K F (upd H a u) (.ref a) m' [a] → x0 = .ref a → Frm F H (C ++ B ++ E) F (upd H a u) (C ++ B ++ E) ∧ Sub F (upd H a u) ∧ OwS K F (upd H a u) σ (s.set i (sl.put m')) (C ++ B ++ E) := by
    rintro a u o0 rfl nF hHa dt o' rfl
    have g : Frm F H [a] F (upd H a u) [a] := Frm.upd hHa dt
    refine ⟨g.more (fun b q => ?_) (fun b hb => .inl hb), sb.upd nF (.inr ⟨_, hHa, dt⟩), kk F _ [a] [a] m' [a] g (fun b hb hq => ?_) o'⟩
    · rw [mem3]; exact .inr (.inl q)
    · rcases List.mem_append.mp hb with q | q
      · exact nd_x (nd_l nd) b q hq
      · exact nd_x nd b (List.mem_append_right _ hq) q
  cases o with
  | fz z => cases hsm
  | ml _ _ _ => cases hsm
  | @md a kvs ds nF hH zs =>
    simp only [dput, Option.map_eq_some_iff] at hp
    obtain ⟨j, ej, rfl⟩ := hp
    have hk := zk.key ej
    subst hk
    obtain ⟨f1, f2, f3⟩ := fin a (.dK (putK kvs j yv)) _ rfl nF hH trivial (.md nF upd_same (zs.put zy)) rfl
    exact ⟨a, _, ex, DPut.k hH (by rw [zs.length]; exact hsm), f1, f2, f3⟩
  | @mt a kvs ds nF hH zs =>
    cases zk with
    | @tup b xs ks hb zks =>
      simp only [dput, Option.map_eq_some_iff] at hp
      obtain ⟨js, ej, rfl⟩ := hp
      have hx := zks.keys ej
      subst hx
      obtain ⟨f1, f2, f3⟩ := fin a (.dT (putK kvs js yv)) _ rfl nF hH trivial (.mt nF upd_same (zs.put zy)) rfl
      exact ⟨a, _, ex, .inr ⟨kvs, js, b, hH, rfl, hb, by rw [zs.length]; exact hsm, rfl⟩, f1, f2, f3⟩
    | _ => simp [dput] at hp
def hasD (o : Option M) : Prop := match o with
  | some m => m.isD
  | none => False
def mDPut (i : Nat) (mi me : TD) : TSd := fun D s => me s fun w s1 => tv w s1 fun y s2 => hasD (slotM s2 i) ∧ mi s2 fun w2 s3 => wD (res s3 w2) (fun x => wD (slotM s3 i) (fun m => m.small ∧ wD (dput m x y.frz) (fun m' => D.nx (setM s3 i m')) .mk) .mk) .mk
theorem s_dput {i : Nat} {mi me : TD} {D : DEnds} : mDPut i mi me D s = me s fun w s1 => tv w s1 fun y s2 => hasD (slotM s2 i) ∧ mi s2 fun w2 s3 => wD (res s3 w2) (fun x => wD (slotM s3 i) (fun m => m.small ∧ wD (dput m x y.frz) (fun m' => D.nx (setM s3 i m')) .mk) .mk) .mk := rfl
theorem wD_ex {α : Type} {o : Option α} {k : α → Prop} {l : Lock k} (h : wD o k l) : ∃ x, o = some x ∧ k x := by rw [← wD_eq] at h; exact h
theorem hasD_at {i : Nat} (h : hasD (slotM s i)) : ∃ sl m, s[i]? = some sl ∧ sl.m? = some m ∧ m.isD := by
  cases e : slotM s i with
  | none => rw [e] at h; exact h.elim
  | some m =>
    rw [e] at h
    obtain ⟨sl, h1, h2⟩ := slotM_at e
    exact ⟨sl, m, h1, h2, h⟩
theorem LiftS.dput {i : Nat} {ti te : TE} {mi me : TD} (li : Lift Z ti mi) (le : Lift Z te me) : LiftS Z (sDPut (tVar i) ti te) (mDPut i mi me) := by
  intro σ H F A s D Dd R h e
  refine le σ H F A s _ _ R h fun w s1 x F1 H1 Av A1 h1 o1 => ?_
  obtain ⟨y, s2, F2, A2, ⟨hd, q⟩, o, z⟩ := tv_fz o1 h1
  obtain ⟨sl0, m0, es0, em0, hD0⟩ := hasD_at hd
  obtain ⟨x0, _, _, _, ev0, ow0, _⟩ := o.own.split es0 em0
  refine ⟨x0, ev0, li σ H1 F2 A2 s2 _ _ (o.rel R) q fun w2 s3 kv F3 H3 A3v A3 q3 o3 => ?_⟩
  obtain ⟨xk, ek, q4⟩ := wD_ex q3
  obtain ⟨m, e3, hsm, q5⟩ := wD_ex q4
  obtain ⟨m', hp, q6⟩ := wD_ex q5
  obtain ⟨sl, es, em⟩ := slotM_at e3
  have zk := o3.wow.view o3.sub o3.own ek
  have nd3 := nd_r o3.nd
  obtain ⟨a, H', ev, hput, fr, sb, ow⟩ := o3.own.mutD nd3 o3.sub es em hsm hp zk (z.mono (Sub.of o3.fr.fsub))
  rw [ev0] at ev
  cases ev
  have ow' : OwS Z.K F3 H' σ (setM s3 i m') A3 := by
    unfold setM
    rw [es]
    exact ow
  exact ⟨a, H', rfl, hput, e.nx _ _ _ _ A3 ((o.trans o3.t).fr.trans0 fr) sb ow' nd3 q6⟩
theorem ds_dput {i : Nat} {x : Str} {e ix : Expr} {ti te : TE} {mi me : TD} {p tp : Pos} (hu : X.A.units + 1 < cLine) (hN : X.N[i]? = some x) (he : DE Z X e te me) (hi : DE Z X ix ti mi) (hv : Vis X.env.scope x := by first | exact Or.inl rfl | exact Or.inr (Or.inl rfl) | exact Or.inr (Or.inr rfl)) (hd : (x == ("__debug__" : Str)) = false := by decide) (hcd : (x == ("__classdict__" : Str)) = false := by decide)
    (hs : swapsWith e (some (.Subscript (.Name x p) ix tp)) pos.line X.env = pure false := by rfl) : DS Z X (.Assign [.Subscript (.Name x p) ix tp] e pos) (sDPut (tVar i) ti te) (mDPut i mi me) :=
  ⟨ps_dput hu (pv i hN hv hd hcd) hi.pe he.pe hs, .dput hi.lf he.lf⟩
/-! ### d[k] op= v -/
def dgetM : M → D → Option D
  | .md kvs, x => x.key.bind fun j => valD kvs j
  | .mt kvs, .tup ks => (D.keys ks).bind fun js => valD kvs js
  | _, _ => none
def mDAug (i : Nat) (mi me : TD) (f : D → D → M → Prop) : TSd := fun D s => hasD (slotM s i) ∧ mi s fun wk s1 => wD (res s1 wk) (fun x => wD (slotM s1 i) (fun m => wD (dgetM m x) (fun d0 => me s1 fun w s2 => wD (res s2 wk) (fun x2 => wD (res s2 w) (fun y => opz (f d0 y) (fun z => wD (slotM s2 i) (fun m2 => m2.small ∧ wD (dput m2 x2 z.frz) (fun m' => D.nx (setM s2 i m')) .mk) .mk) .mk) .mk) .mk) .mk) .mk) .mk
theorem s_daug {i : Nat} {mi me : TD} {f : D → D → M → Prop} {D : DEnds} : mDAug i mi me f D s = (hasD (slotM s i) ∧ mi s fun wk s1 => wD (res s1 wk) (fun x => wD (slotM s1 i) (fun m => wD (dgetM m x) (fun d0 => me s1 fun w s2 => wD (res s2 wk) (fun x2 => wD (res s2 w) (fun y => opz (f d0 y) (fun z => wD (slotM s2 i) (fun m2 => m2.small ∧ wD (dput m2 x2 z.frz) (fun m' => D.nx (setM s2 i m')) .mk) .mk) .mk) .mk) .mk) .mk) .mk) .mk) := rfl
theorem dgetM_look {m : M} {x d : D} (h : dgetM m x = some d) : D.look m.frz x (some d) := by
  cases m with
  | md kvs =>
    simp only [dgetM, Option.bind_eq_some_iff] at h
    obtain ⟨j, ej, e⟩ := h
    cases x <;> exact ⟨j, ej, e.symm⟩
  | mt kvs =>
    cases x with
    | tup ks =>
      simp only [dgetM, Option.bind_eq_some_iff] at h
      obtain ⟨j, ej, e⟩ := h
      exact ⟨j, ej, e.symm⟩
    | _ => simp [dgetM] at h
  | _ => simp [dgetM] at h
/-- the key read again, behind the value -/
theorem LiftS.daug {i : Nat} {ti te : TE} {mi me : TD} {rd : R2} {f : D → D → M → Prop} (hop : OpD Z.K rd f) (li : Lift Z ti mi) (le : Lift Z te me) : LiftS Z (sDAug (tVar i) ti te rd) (mDAug i mi me f) := by
  intro σ H F A s D Dd R h e
  obtain ⟨hd, h⟩ := h
  obtain ⟨sl0, m0, es0, em0, hD0⟩ := hasD_at hd
  obtain ⟨x0, _, _, _, ev0, ow0, _⟩ := R.own.split es0 em0
  refine ⟨x0, ev0, li σ H F A s _ _ R h fun wk s1 kv F1 H1 Ak A1 h1 o1 => ?_⟩
  obtain ⟨x, ek, qa⟩ := wD_ex h1
  obtain ⟨m, e1, qb⟩ := wD_ex qa
  obtain ⟨d0, e2, qc⟩ := wD_ex qb
  clear qa qb h1
  obtain ⟨sl1, es1, em1⟩ := slotM_at e1
  obtain ⟨mk, Ck, owk, rfl⟩ := o1.wow.res o1.own ek
  obtain ⟨x1, B, C, E, ev1, ow1, hA, kk⟩ := o1.own.split es1 em1
  rw [ev0] at ev1
  cases ev1
  obtain ⟨a, ov, rfl, hget, zv⟩ := dget_ok o1.sub ow1 owk rfl rfl (dgetM_look e2)
  cases ov with
  | none => exact zv.elim
  | some v0 =>
    refine ⟨a, v0, rfl, hget, le σ H1 F1 A1 s1 _ _ (o1.rel R) qc fun w s2 y2 F2 H2 A2v A2 q2 o2 => ?_⟩
    obtain ⟨x2, ek2, q3⟩ := wD_ex q2
    obtain ⟨y, ey, z, hz, q4⟩ := wD_ex q3
    obtain ⟨m2, em2, hsm, q5⟩ := wD_ex q4
    obtain ⟨m', hp, q6⟩ := wD_ex q5
    have p := o1.seq o2
    obtain ⟨my, Cy, owy, rfl⟩ := p.wb.res p.own ey
    have zv2 : Fz Z.K F2 v0 d0 := Fz.mono (Sub.of o2.fr.fsub) (show Fz Z.K F1 v0 d0 from zv)
    refine hop F2 H2 v0 y2 (.fz d0) my [] Cy z _ p.sub (.fz zv2) owy hz fun u F3 H3 Au g sb ow nu => ?_
    have zk := p.wa.view p.sub p.own ek2
    have o3 := Out.fin (σ := σ) p.fr p.own p.nd g sb ow nu
    have w3 := o3.wow
    cases w3 with
    | val w4 =>
      obtain ⟨F4, f4, sb4, z4⟩ := w4.freeze o3.sub
      have hx := nd_x o3.nd
      have ow4 : OwS Z.K F4 H3 σ s2 A2 := o3.own.keep f4 fun a ha hb => hx a hb ha
      have fr4 : Frm F H A F4 H3 A2 := by
        have f3 : Frm F H A F3 H3 (A2 ++ Au) := o3.fr.weak fun a ha => (List.mem_append.mp ha).elim (List.mem_append_right _) (List.mem_append_left _)
        exact (Frm.trans (B := A2) f3 f4).weak fun a ha => by simpa using ha
      obtain ⟨sl2, es2, emm⟩ := slotM_at em2
      have nd4 := nd_r o3.nd
      obtain ⟨a', H', ev', hput, fr, sb', ow'⟩ := ow4.mutD nd4 sb4 es2 emm hsm hp (keyN_of g zk hp) z4
      rw [ev0] at ev'
      cases ev'
      have ow'' : OwS Z.K F4 H' σ (setM s2 i m') A2 := by
        unfold setM
        rw [es2]
        exact ow'
      exact ⟨H', hput, e.nx _ _ _ _ A2 (fr4.trans0 fr) sb' ow'' nd4 q6⟩
theorem ds_daug {i : Nat} {x : Str} {ex ix : Expr} {ti te : TE} {mi me : TD} {op : Operator} {rd : R2} {f : D → D → M → Prop} {p tp : Pos} (hu : X.A.units + 1 < cLine) (hN : X.N[i]? = some x) (hi : DE Z X ix ti mi) (he : DE Z X ex te me) (hop : InOp X op rd) (hod : OpD Z.K rd f) (hv : Vis X.env.scope x := by first | exact Or.inl rfl | exact Or.inr (Or.inl rfl) | exact Or.inr (Or.inr rfl)) (hd : (x == ("__debug__" : Str)) = false := by decide) (hcd : (x == ("__classdict__" : Str)) = false := by decide)
    (ha : ∀ ov iv new, augStore ix ov iv new = (do holding [new, ov, iv] (setItem ov iv new); release [new, ov, iv] []; pure .next) := by intros; rfl) : DS Z X (.AugAssign (.Subscript (.Name x p) ix tp) op ex pos) (sDAug (tVar i) ti te rd) (mDAug i mi me f) :=
  ⟨ps_daug hu (pv i hN hv hd hcd) hi.pe he.pe hop ha, .daug hod hi.lf he.lf⟩
theorem od_addI : OpD K (rI0 fun i j => .int (i + j)) (iop (fun _ _ => True) fun i j => .int (i + j)) := OpD.int0 fun _ _ _ => .int _
theorem od_mulI : OpD K (rI CMul fun i j => .int (i * j)) (iop CMul fun i j => .int (i * j)) := OpD.int fun _ _ _ => .int _
/-! ### new dicts -/
theorem new_dic {p : Addr} {kvs : List (Key × V)} {ds : List (Key × D)} (sb : Sub F H) (hp : H p = none) (z : Fzk K F kvs ds) : Frm F H [] F (upd H p (.dK kvs)) [p] ∧ Sub F (upd H p (.dK kvs)) ∧ Ow K F (upd H p (.dK kvs)) (.ref p) (.md ds) [p] := by
  have nF : F p = none := sb.fresh hp
  refine ⟨.ext (fun _ _ h => h) (fun a o h => ?_) (fun a ha => ?_) (fun _ _ h => .inl h), sb.upd nF (.inl hp), .md nF upd_same z⟩
  · by_cases e : a = p
    · subst e; rw [hp] at h; cases h
    · rw [upd_ne e]; exact h
  · have : a = p := by simpa using ha
    subst this
    exact .inr hp
theorem new_dit {p : Addr} {kvs : List (List Key × V)} {ds : List (List Key × D)} (sb : Sub F H) (hp : H p = none) (z : Fzt K F kvs ds) : Frm F H [] F (upd H p (.dT kvs)) [p] ∧ Sub F (upd H p (.dT kvs)) ∧ Ow K F (upd H p (.dT kvs)) (.ref p) (.mt ds) [p] := by
  have nF : F p = none := sb.fresh hp
  refine ⟨.ext (fun _ _ h => h) (fun a o h => ?_) (fun a ha => ?_) (fun _ _ h => .inl h), sb.upd nF (.inl hp), .mt nF upd_same z⟩
  · by_cases e : a = p
    · subst e; rw [hp] at h; cases h
    · rw [upd_ne e]; exact h
  · have : a = p := by simpa using ha
    subst this
    exact .inr hp
def mDNew (m : M) : TD := fun s Q => Q (.val m) s
theorem s_dnew {m : M} {Q} : mDNew m s Q = Q (.val m) s := rfl
theorem Lift.dnewK : Lift Z tDNewK (mDNew (.md [])) := by
  intro σ H F A s Q Qd R h k p hp
  obtain ⟨g, sb, o⟩ := new_dic (K := Z.K) R.sub hp .nil
  exact k _ _ _ _ _ [p] A h (Out.fin (B := []) (by simpa using (Frm.refl (F := F) (H := H) (A := A))) R.own (by simpa using R.nd) g sb o (by simp))
theorem Lift.dnewT : Lift Z tDNewT (mDNew (.mt [])) := by
  intro σ H F A s Q Qd R h k p hp
  obtain ⟨g, sb, o⟩ := new_dit (K := Z.K) R.sub hp .nil
  exact k _ _ _ _ _ [p] A h (Out.fin (B := []) (by simpa using (Frm.refl (F := F) (H := H) (A := A))) R.own (by simpa using R.nd) g sb o (by simp))
theorem de_dnewK : DE Z X (.Dict [] [] pos) tDNewK (mDNew (.md [])) := ⟨pe_dnewK, .dnewK⟩
theorem de_dnewT : DE Z X (.Dict [] [] pos) tDNewT (mDNew (.mt [])) := ⟨pe_dnewT, .dnewT⟩
end
end DL

namespace DL
open PySem PySem.Spec L2
section
variable {Z : ZX} {X : Cx} {K : PySem.W.Frag} {F H : Hp} {A : List Addr} {σ : L2.St} {s : DSt} {v : V} {d : D} {pos : Pos}
/-! ### {k: v, ..} -/
def flatP {α : Type} : List (α × α) → List α
  | [] => []
  | (a, b) :: r => a :: b :: flatP r
/-- keys and values, one behind the other -/
def mFlat : List (TD × TD) → TDs
  | [] => mNil
  | (a, b) :: r => mCons a (mCons b (mFlat r))
inductive LiftPs (Z : ZX) : List (TE × TE) → List (TD × TD) → Prop
  | nil : LiftPs Z [] []
  | cons {t u : TE} {m n : TD} {r : List (TE × TE)} {q : List (TD × TD)} : Lift Z t m → Lift Z u n → LiftPs Z r q → LiftPs Z ((t, u) :: r) ((m, n) :: q)
structure DPs (Z : ZX) (X : Cx) (pos : Pos) (keys : List (Option Expr)) (values : List Expr) (trs : List (TE × TE)) (ms : List (TD × TD)) : Prop where
  pps : PPs X pos keys values trs
  lf : LiftPs Z trs ms
theorem dps_nil : DPs Z X pos [] [] [] [] := ⟨pps_nil, .nil⟩
theorem dps_cons {k e : Expr} {ks : List (Option Expr)} {es : List Expr} {t u : TE} {m n : TD} {r : List (TE × TE)} {q : List (TD × TD)} (hk : DE Z X k t m) (he : DE Z X e u n) (h : DPs Z X pos ks es r q) : DPs Z X pos (some k :: ks) (e :: es) ((t, u) :: r) ((m, n) :: q) :=
  ⟨pps_cons hk.pe he.pe h.pps, .cons hk.lf he.lf h.lf⟩
theorem LiftPs.run : ∀ {r : List (TE × TE)} {q : List (TD × TD)}, LiftPs Z r q → ∀ (H F : Hp) (A : List Addr) (s : DSt) (Q : List (V × V) → Hp → Prop) (Qd : List W → DSt → Prop), Rel Z F H σ s A → mFlat q s Qd →
    (∀ ws s' ps F' H' Av A', Qd ws s' → Outs Z.K F H A σ ws s' (flatP ps) F' H' Av A' → Q ps H') → tPairs r σ H Q
  | _, _, .nil, H, F, A, s, Q, Qd, R, h, k => k _ _ [] _ _ _ _ h ⟨Frm.refl, R.sub, .nil, R.own, R.nd⟩
  | _, _, .cons l l' rest, H, F, A, s, Q, Qd, R, h, k => by
    refine l σ H F A s _ _ R h fun w s1 v F1 H1 Av A1 h1 o1 => ?_
    refine l' σ H1 F1 A1 s1 _ _ (o1.rel R) h1 fun w2 s2 v2 F2 H2 Av2 A2 h2 o2 => ?_
    have R2 := o2.rel (o1.rel R)
    exact rest.run H2 F2 A2 s2 _ _ R2 h2 fun ws s3 ps F3 H3 Av3 A3 h3 o3 => k _ _ ((v, v2) :: ps) _ _ _ _ h3 (o1.cons (o2.cons o3))
/-- the pairs that the kept values make -/
def mkD : List M → Option (List (Key × D))
  | [] => some []
  | k :: v :: r => k.frz.key.bind fun j => (mkD r).map fun kvs => (j, v.frz) :: kvs
  | _ => none
def mergeD (kvs more : List (Key × D)) : List (Key × D) := more.foldl (fun acc kv => putD acc kv.1 kv.2) kvs
theorem mkD_ok {F : Hp} : ∀ {ps : List (V × V)} {ms : List M} {kvs : List (Key × D)}, Fzs K F (flatP ps) (ms.map M.frz) → mkD ms = some kvs → ∃ ws : List (Key × V), ps = ws.map (fun kv => (kV kv.1, kv.2)) ∧ Fzk K F ws kvs
  | [], ms, kvs, z, h => by
    cases ms with
    | nil => simp [mkD] at h; subst h; exact ⟨[], rfl, .nil⟩
    | cons _ _ => cases z
  | (a, b) :: ps, ms, kvs, z, h => by
    cases ms with
    | nil => cases z
    | cons m1 ms =>
      cases ms with
      | nil =>
        cases z with
        | cons _ z => cases z
      | cons m2 ms =>
        cases z with
        | cons z1 z =>
          cases z with
          | cons z2 z =>
            simp only [mkD, Option.bind_eq_some_iff, Option.map_eq_some_iff] at h
            obtain ⟨j, ej, kv2, e2, rfl⟩ := h
            obtain ⟨ws, e3, z3⟩ := mkD_ok z e2
            have := z1.key ej
            subst this
            exact ⟨(j, b) :: ws, by rw [e3]; rfl, .cons z2 z3⟩
theorem Fzk.merge {F : Hp} : ∀ {more : List (Key × V)} {md : List (Key × D)} {kvs : List (Key × V)} {ds : List (Key × D)}, Fzk K F more md → Fzk K F kvs ds → Fzk K F (mergeK kvs more) (mergeD ds md)
  | _, _, _, _, .nil, z => z
  | _, _, _, _, .cons (k := k) zv r, z => by
    have h := Fzk.merge r (z.put (k := k) zv)
    exact h
def mDisp (q : List (TD × TD)) : TD := fun s Q => mFlat q s fun ws s1 => tvs ws s1 fun ms s2 => wD (mkD ms) (fun kvs => kvs.length ≤ 15 ∧ Q (.val (.md (mergeD [] kvs))) s2) .mk
theorem s_disp {q : List (TD × TD)} {Q} : mDisp q s Q = mFlat q s fun ws s1 => tvs ws s1 fun ms s2 => wD (mkD ms) (fun kvs => kvs.length ≤ 15 ∧ Q (.val (.md (mergeD [] kvs))) s2) .mk := rfl
theorem s_flat0 {Q} : mFlat [] s Q = Q [] s := rfl
theorem s_flat1 {a b : TD} {r : List (TD × TD)} {Q} : mFlat ((a, b) :: r) s Q = mCons a (mCons b (mFlat r)) s Q := rfl
theorem Lift.disp {r : List (TE × TE)} {q : List (TD × TD)} (l : LiftPs Z r q) : Lift Z (tDisp r) (mDisp q) := by
  intro σ H F A s Q Qd R h k p hp
  obtain ⟨g, sb, o⟩ := new_dic (K := Z.K) R.sub hp .nil
  have o0 : Out Z.K F H A σ (.val (.md [])) s (.ref p) F (upd H p (.dK [])) [p] A := Out.fin (B := []) (by simpa using (Frm.refl (F := F) (H := H) (A := A))) R.own (by simpa using R.nd) g sb o (by simp)
  refine l.run (upd H p (.dK [])) F A s _ _ (o0.rel R) h fun ws s1 ps F1 H1 Av A1 h1 o1 => ?_
  have oo := o0.cons o1
  have h2 : tvs (.val (.md []) :: ws) s1 fun ms s2 => ∃ ms', ms = .md [] :: ms' ∧ wD (mkD ms') (fun kvs => kvs.length ≤ 15 ∧ Qd (.val (.md (mergeD [] kvs))) s2) .mk := by
    show tvs ws s1 fun ms s2 => _
    have e : (fun (ms : List M) (s2 : DSt) => wD (mkD ms) (fun kvs => kvs.length ≤ 15 ∧ Qd (.val (.md (mergeD [] kvs))) s2) .mk) = fun ms s2 => ∃ ms', M.md [] :: ms = M.md [] :: ms' ∧ wD (mkD ms') (fun kvs => kvs.length ≤ 15 ∧ Qd (.val (.md (mergeD [] kvs))) s2) .mk := by
      funext ms s2
      refine propext ⟨fun h => ⟨ms, rfl, h⟩, ?_⟩
      rintro ⟨ms', e, h⟩
      cases e
      exact h
    rw [← e]
    exact h1
  obtain ⟨ms, s2, F2, B2, A2, ⟨ms', rfl, hm⟩, f2, sb2, ol, ow2, n2, hB, hA⟩ := tvs_ok oo.wow oo.sub oo.own oo.nd h2
  obtain ⟨kvs, ek, h15, hq⟩ := wD_ex hm
  cases ol with
  | @cons _ _ _ _ P1 C1 op or =>
    cases op with
    | @md _ kv0 _ nF hH zs =>
      cases zs
      have n2' : ([p] ++ (C1 ++ A2)).Nodup := by simpa using n2
      obtain ⟨F3, f3, sb3, z3⟩ := OwL.freeze or sb2 (nd_l (nd_r n2'))
      have hp1 : p ∉ C1 := fun hc => nd_x n2' p (by simp) (List.mem_append_left _ hc)
      have nF3 : F3 p = none := f3.nof nF hH hp1
      obtain ⟨ws', rfl, zk⟩ := mkD_ok z3 ek
      have hlen : ws'.length ≤ 15 := by rw [zk.length]; exact h15
      refine ⟨hH, ws', rfl, hlen, ?_⟩
      have zm : Fzk Z.K F3 (mergeK [] ws') (mergeD [] kvs) := Fzk.merge zk .nil
      have fr2 : Frm F H A F2 H1 (([p] ++ A2) ++ C1) := by
        have := oo.fr.trans0 f2
        exact this.weak fun a ha => by
          simp at ha ⊢
          rcases ha with h | h | h
          · exact .inl h
          · exact .inr (.inr h)
          · exact .inr (.inl h)
      have fr3 : Frm F H A F3 H1 ([p] ++ A2) := (Frm.trans (B := [p] ++ A2) fr2 f3).weak fun a ha => by simpa using ha
      have g8 : Frm F3 H1 [p] F3 (upd H1 p (.dK (mergeK [] ws'))) [p] := Frm.upd hH trivial
      have sb8 : Sub F3 (upd H1 p (.dK (mergeK [] ws'))) := sb3.upd nF3 (.inr ⟨_, hH, trivial⟩)
      have ow3 : OwS Z.K F3 H1 σ s2 A2 := ow2.keep f3 fun a ha hb => nd_x (nd_r n2') a hb ha
      have ow8 : OwS Z.K F3 (upd H1 p (.dK (mergeK [] ws'))) σ s2 A2 := ow3.keep g8 fun a ha hb => nd_x n2' a hb (List.mem_append_right _ ha)
      have f7 : Frm F H A F3 H1 (A2 ++ [p]) := fr3.weak fun a ha => (List.mem_append.mp ha).elim (List.mem_append_right _) (List.mem_append_left _)
      refine k _ _ _ _ _ [p] A2 hq ⟨(Frm.trans (B := A2) f7 g8).weak fun a ha => (List.mem_append.mp ha).elim (List.mem_append_right _) (List.mem_append_left _), sb8, .val (.md nF3 upd_same zm), ow8, ?_⟩
      exact nd_mk (by simp) (nd_r (nd_r n2')) fun a ha hb => nd_x n2' a ha (List.mem_append_right _ hb)
theorem de_disp {keys : List (Option Expr)} {values : List Expr} {trs : List (TE × TE)} {q : List (TD × TD)} (h : DPs Z X pos keys values trs q) (hall : keys.all (·.isSome) = true := by rfl) (hl : keys.length = values.length := by rfl) (h0 : keys ≠ [] := by exact List.cons_ne_nil _ _) (h15 : keys.length ≤ 15 := by decide) : DE Z X (.Dict keys values pos) (tDisp trs) (mDisp q) :=
  ⟨pe_disp h.pps hall hl h0 h15, .disp h.lf⟩
end
end DL

namespace DL
open PySem PySem.Spec L2
section
variable {Z : ZX} {X : Cx} {K : PySem.W.Frag} {F H : Hp} {A : List Addr} {σ : L2.St} {s : DSt} {v : V} {d : D} {pos : Pos}
/-- a statement that is never reached -/
def mNever : TSd := fun _ _ => False
theorem s_never {D0 : DEnds} : mNever D0 s = False := rfl
theorem ds_never {st : Stmt} : DS Z X st (fun _ _ _ => False) mNever := ⟨⟨fun _ _ _ _ _ _ h => h.elim⟩, fun _ _ _ _ _ _ _ _ h _ => h.elim⟩
def mNeverE : TD := fun _ _ => False
theorem s_neverE {Q} : mNeverE s Q = False := rfl
theorem de_never {e : Expr} : DE Z X e (fun _ _ _ => False) mNeverE := ⟨⟨fun _ _ _ _ _ _ h => h.elim⟩, fun _ _ _ _ _ _ _ _ h _ => h.elim⟩
/-! ### lists of boolL and of intL -/
def boolL : List D → Option (List Bool)
  | [] => some []
  | .bl b :: r => (boolL r).map fun bs => b :: bs
  | _ :: _ => none
def intL : List D → Option (List Int)
  | [] => some []
  | .int b :: r => (intL r).map fun bs => b :: bs
  | _ :: _ => none
theorem boolL_map : ∀ bs : List Bool, boolL (bs.map .bl) = some bs
  | [] => rfl
  | b :: bs => by simp [boolL, boolL_map bs]
theorem intL_map : ∀ bs : List Int, intL (bs.map .int) = some bs
  | [] => rfl
  | b :: bs => by simp [intL, intL_map bs]
theorem boolL_mapf {α : Type} (f : α → Bool) : ∀ l : List α, boolL (l.map fun a => .bl (f a)) = some (l.map f)
  | [] => rfl
  | b :: bs => by simp [boolL, boolL_mapf f bs]
theorem intL_mapf {α : Type} (f : α → Int) : ∀ l : List α, intL (l.map fun a => .int (f a)) = some (l.map f)
  | [] => rfl
  | b :: bs => by simp [intL, intL_mapf f bs]
theorem Fzs.boolE : ∀ {xs : List V} {ds : List D} {bs : List Bool}, Fzs K F xs ds → DL.boolL ds = some bs → xs = bs.map V.bl
  | _, _, bs, .nil, h => by simp [DL.boolL] at h; subst h; rfl
  | _, _, bs, .cons z r, h => by
    cases z with
    | bl b =>
      simp only [DL.boolL, Option.map_eq_some_iff] at h
      obtain ⟨bs', e, rfl⟩ := h
      rw [r.boolE e]; rfl
    | _ => simp [DL.boolL] at h
theorem Fzs.intsE : ∀ {xs : List V} {ds : List D} {bs : List Int}, Fzs K F xs ds → DL.intL ds = some bs → xs = bs.map V.int
  | _, _, bs, .nil, h => by simp [DL.intL] at h; subst h; rfl
  | _, _, bs, .cons z r, h => by
    cases z with
    | int b =>
      simp only [DL.intL, Option.map_eq_some_iff] at h
      obtain ⟨bs', e, rfl⟩ := h
      rw [r.intsE e]; rfl
    | _ => simp [DL.intL] at h
def dAll : D → M → Prop
  | .lst ds, z => ∃ bs, boolL ds = some bs ∧ z = .fz (.bl (bs.all id))
  | _, _ => False
def dAny : D → M → Prop
  | .lst ds, z => ∃ bs, boolL ds = some bs ∧ z = .fz (.bl (bs.any id))
  | _, _ => False
def dSum : D → M → Prop
  | .lst ds, z => ∃ bs, intL ds = some bs ∧ z = .fz (.int bs.sum)
  | _, _ => False
theorem o_all {ds : List D} {k l} : opz (dAll (.lst ds)) k l = wD (boolL ds) (fun bs => k (.fz (.bl (bs.all id)))) .mk := at_eq
theorem o_any {ds : List D} {k l} : opz (dAny (.lst ds)) k l = wD (boolL ds) (fun bs => k (.fz (.bl (bs.any id)))) .mk := at_eq
theorem o_sum {ds : List D} {k l} : opz (dSum (.lst ds)) k l = wD (intL ds) (fun bs => k (.fz (.int bs.sum))) .mk := at_eq
theorem cd_all : CallD K (rAll K) (f1 dAll) := CallD.one fun F H x m B z Q sb w hz k => by
  generalize e : m.frz = d at hz
  cases d with
  | lst ds =>
    obtain ⟨bs, hb, rfl⟩ := hz
    obtain ⟨a, xs, rfl, hH, zs⟩ := w.lstV sb e
    have := zs.boolE hb
    subst this
    exact ⟨a, bs, rfl, SqL.of hH, k _ F H [] Frm.refl sb (.fz (.bl _)) List.nodup_nil⟩
  | _ => exact hz.elim
theorem cd_any : CallD K (rAny K) (f1 dAny) := CallD.one fun F H x m B z Q sb w hz k => by
  generalize e : m.frz = d at hz
  cases d with
  | lst ds =>
    obtain ⟨bs, hb, rfl⟩ := hz
    obtain ⟨a, xs, rfl, hH, zs⟩ := w.lstV sb e
    have := zs.boolE hb
    subst this
    exact ⟨a, bs, rfl, SqL.of hH, k _ F H [] Frm.refl sb (.fz (.bl _)) List.nodup_nil⟩
  | _ => exact hz.elim
theorem cd_sum : CallD K (rSum K) (f1 dSum) := CallD.one fun F H x m B z Q sb w hz k => by
  generalize e : m.frz = d at hz
  cases d with
  | lst ds =>
    obtain ⟨bs, hb, rfl⟩ := hz
    obtain ⟨a, xs, rfl, hH, zs⟩ := w.lstV sb e
    have := zs.intsE hb
    subst this
    exact ⟨a, bs, rfl, SqL.of hH, k _ F H [] Frm.refl sb (.fz (.int _)) List.nodup_nil⟩
  | _ => exact hz.elim
theorem call_allA (hK : X.K = K) (hc : X.calm = true) : CallR X (.builtin "all") (rAll K) := by subst hK; exact cr_all hc
theorem call_anyA (hK : X.K = K) (hc : X.calm = true) : CallR X (.builtin "any") (rAny K) := by subst hK; exact cr_any hc
theorem call_sumA (hK : X.K = K) (hc : X.calm = true) : CallR X (.builtin "sum") (rSum K) := by subst hK; exact cr_sum hc
/-! ### min, max: of a list of intL, of two intL -/
def rMaxA (K : PySem.W.Frag) : List V → Hp → VK → Prop := fun xs H Q => rMax K xs H Q ∨ ∃ i j, xs = [.int i, .int j] ∧ Q (.int (if j > i then j else i)) H
def rMinA (K : PySem.W.Frag) : List V → Hp → VK → Prop := fun xs H Q => rMin K xs H Q ∨ ∃ i j, xs = [.int i, .int j] ∧ Q (.int (if j < i then j else i)) H
theorem call_maxA (hK : X.K = K) (hc : X.calm = true) : CallR X (.builtin "max") (rMaxA K) := by subst hK; exact CallR.or (cr_max hc) (call_max2 hc)
theorem call_minA (hK : X.K = K) (hc : X.calm = true) : CallR X (.builtin "min") (rMinA K) := by subst hK; exact CallR.or (cr_min hc) (call_min2 hc)
def dMax : List D → M → Prop
  | [.lst ds], z => ∃ bs, intL ds = some bs ∧ ∃ m, (m ∈ bs ∧ ∀ y ∈ bs, y ≤ m) ∧ z = .fz (.int m)
  | [.int i, .int j], z => z = .fz (.int (if j > i then j else i))
  | _, _ => False
def dMin : List D → M → Prop
  | [.lst ds], z => ∃ bs, intL ds = some bs ∧ ∃ m, (m ∈ bs ∧ ∀ y ∈ bs, m ≤ y) ∧ z = .fz (.int m)
  | [.int i, .int j], z => z = .fz (.int (if j < i then j else i))
  | _, _ => False
theorem o_max2 {i j : Int} {k l} : opz (dMax [.int i, .int j]) k l = k (.fz (.int (if j > i then j else i))) := opz_one _ rfl
theorem o_min2 {i j : Int} {k l} : opz (dMin [.int i, .int j]) k l = k (.fz (.int (if j < i then j else i))) := opz_one _ rfl
theorem max_of {ds : List D} {bs : List Int} {m : Int} {k l} (h : intL ds = some bs) (hm : m ∈ bs) (hx : ∀ y ∈ bs, y ≤ m) (q : k (.fz (.int m))) : opz (dMax [.lst ds]) k l := ⟨_, ⟨bs, h, m, ⟨hm, hx⟩, rfl⟩, q⟩
theorem min_of {ds : List D} {bs : List Int} {m : Int} {k l} (h : intL ds = some bs) (hm : m ∈ bs) (hx : ∀ y ∈ bs, m ≤ y) (q : k (.fz (.int m))) : opz (dMin [.lst ds]) k l := ⟨_, ⟨bs, h, m, ⟨hm, hx⟩, rfl⟩, q⟩
theorem OwV.inv1 {vs : List V} {m : M} (o : OwV K F H vs [m]) : ∃ x B, vs = [x] ∧ Ow K F H x m B := by
  cases o with
  | cons a r => cases r; exact ⟨_, _, rfl, a⟩
theorem map1 {ms : List M} {a : D} (h : ms.map M.frz = [a]) : ∃ m, ms = [m] ∧ m.frz = a := by
  cases ms with
  | nil => cases h
  | cons m r =>
    cases r with
    | nil => simp at h; exact ⟨m, rfl, h⟩
    | cons _ _ => simp at h
theorem map2 {ms : List M} {a b : D} (h : ms.map M.frz = [a, b]) : ∃ m n, ms = [m, n] ∧ m.frz = a ∧ n.frz = b := by
  cases ms with
  | nil => cases h
  | cons m r =>
    cases r with
    | nil => simp at h
    | cons n r =>
      cases r with
      | nil => simp at h; exact ⟨m, n, rfl, h.1, h.2⟩
      | cons _ _ => simp at h
theorem OwV.inv2 {vs : List V} {m n : M} (o : OwV K F H vs [m, n]) : ∃ x y B C, vs = [x, y] ∧ Ow K F H x m B ∧ Ow K F H y n C := by
  cases o with
  | cons a r =>
    cases r with
    | cons b r => cases r; exact ⟨_, _, _, _, rfl, a, b⟩
theorem Ow.intE {x : V} {m : M} {B : List Addr} {i : Int} (w : Ow K F H x m B) (e : m.frz = .int i) : x = .int i := by
  cases w with
  | fz z => cases e; cases id z; rfl
  | ml _ _ _ => cases e
  | md _ _ _ => cases e
  | mt _ _ _ => cases e
theorem cd_max : CallD K (rMaxA K) dMax := by
  intro F H xs ms z Q sb ov hz k
  generalize e : ms.map M.frz = ds at hz
  unfold dMax at hz
  split at hz
  · obtain ⟨bs, hb, m, ⟨hm, hx⟩, rfl⟩ := hz
    obtain ⟨m1, rfl, e1⟩ := map1 e
    obtain ⟨x, B, rfl, w⟩ := ov.inv1
    obtain ⟨a, xs, rfl, hH, zs⟩ := w.lstV sb e1
    have := zs.intsE hb
    subst this
    refine .inl ⟨a, bs, rfl, SqL.of hH, List.length_pos_of_mem hm, fun m' hm' hx' => ?_⟩
    have e2 : m' = m := Int.le_antisymm (hx m' hm') (hx' m hm)
    subst e2
    exact k _ F H [] Frm.refl sb (.fz (.int _)) List.nodup_nil
  · subst hz
    obtain ⟨m1, m2, rfl, e1, e2⟩ := map2 e
    obtain ⟨x, y, B, C, rfl, w1, w2⟩ := ov.inv2
    have h1 := w1.intE e1
    have h2 := w2.intE e2
    subst h1 h2
    exact .inr ⟨_, _, rfl, k _ F H [] Frm.refl sb (.fz (.int _)) List.nodup_nil⟩
  · exact hz.elim
theorem cd_min : CallD K (rMinA K) dMin := by
  intro F H xs ms z Q sb ov hz k
  generalize e : ms.map M.frz = ds at hz
  unfold dMin at hz
  split at hz
  · obtain ⟨bs, hb, m, ⟨hm, hx⟩, rfl⟩ := hz
    obtain ⟨m1, rfl, e1⟩ := map1 e
    obtain ⟨x, B, rfl, w⟩ := ov.inv1
    obtain ⟨a, xs, rfl, hH, zs⟩ := w.lstV sb e1
    have := zs.intsE hb
    subst this
    refine .inl ⟨a, bs, rfl, SqL.of hH, List.length_pos_of_mem hm, fun m' hm' hx' => ?_⟩
    have e2 : m' = m := Int.le_antisymm (hx' m hm) (hx m' hm')
    subst e2
    exact k _ F H [] Frm.refl sb (.fz (.int _)) List.nodup_nil
  · subst hz
    obtain ⟨m1, m2, rfl, e1, e2⟩ := map2 e
    obtain ⟨x, y, B, C, rfl, w1, w2⟩ := ov.inv2
    have h1 := w1.intE e1
    have h2 := w2.intE e2
    subst h1 h2
    exact .inr ⟨_, _, rfl, k _ F H [] Frm.refl sb (.fz (.int _)) List.nodup_nil⟩
  · exact hz.elim
end
theorem bo_all : bootBuiltins "all" = some (.builtin "all") := by decide +kernel
theorem bo_any : bootBuiltins "any" = some (.builtin "any") := by decide +kernel
theorem bo_sum : bootBuiltins "sum" = some (.builtin "sum") := by decide +kernel
theorem bo_min : bootBuiltins "min" = some (.builtin "min") := by decide +kernel
theorem bo_max : bootBuiltins "max" = some (.builtin "max") := by decide +kernel
theorem bo_dict : bootBuiltins "dict" = some (.type "dict") := by decide +kernel
theorem bo_bool : bootBuiltins "bool" = some (.type "bool") := by decide +kernel
/-! ### outcomes with boolL -/
theorem o_eqB {i j : Bool} {k l} : opz (dEq (.bl i) (.bl j)) k l = k (.fz (.bl (decide (i = j)))) := opz_one _ (by
  funext z
  refine propext ⟨?_, fun h => ⟨_, .inl rfl, h⟩⟩
  rintro ⟨b, hb, rfl⟩
  rcases hb with hb | ⟨_, _, rfl⟩
  · simp [D.eqS] at hb; rw [hb]
  · cases i <;> cases j <;> rfl)
theorem o_neB {i j : Bool} {k l} : opz (dNe (.bl i) (.bl j)) k l = k (.fz (.bl (!decide (i = j)))) := opz_one _ (by
  funext z
  refine propext ⟨?_, fun h => ⟨_, .inl rfl, h⟩⟩
  rintro ⟨b, hb, rfl⟩
  rcases hb with hb | ⟨_, _, rfl⟩
  · simp [D.eqS] at hb; rw [hb]
  · cases i <;> cases j <;> rfl)
theorem o_ixD {kvs : List (Key × D)} {x : Str} {k l} : opz (dIdx (.dic kvs) (.str x)) k l = wD (valD kvs (.inr x)) (fun d => k (.fz d)) .mk := by
  have e : (dIdx (.dic kvs) (.str x)) = fun z => ∃ d, valD kvs (.inr x) = some d ∧ z = .fz d := by
    funext z
    refine propext ⟨?_, ?_⟩
    · rintro ⟨d, ⟨j, ej, e⟩, rfl⟩
      cases ej
      exact ⟨d, e.symm, rfl⟩
    · rintro ⟨d, e, rfl⟩
      exact ⟨d, ⟨_, rfl, e.symm⟩, rfl⟩
  rw [e]
  exact at_eq
theorem o_ixDi {kvs : List (Key × D)} {x : Int} {k l} : opz (dIdx (.dic kvs) (.int x)) k l = wD (valD kvs (.inl x)) (fun d => k (.fz d)) .mk := by
  have e : (dIdx (.dic kvs) (.int x)) = fun z => ∃ d, valD kvs (.inl x) = some d ∧ z = .fz d := by
    funext z
    refine propext ⟨?_, ?_⟩
    · rintro ⟨d, ⟨j, ej, e⟩, rfl⟩
      cases ej
      exact ⟨d, e.symm, rfl⟩
    · rintro ⟨d, e, rfl⟩
      exact ⟨d, ⟨_, rfl, e.symm⟩, rfl⟩
  rw [e]
  exact at_eq
theorem p_str {kvs : List (Key × D)} {x : Str} {d : D} : dput (.md kvs) (.str x) d = some (.md (putD kvs (.inr x) d)) := rfl
theorem p_int {kvs : List (Key × D)} {x : Int} {d : D} : dput (.md kvs) (.int x) d = some (.md (putD kvs (.inl x) d)) := rfl
theorem s_frzD {kvs : List (Key × D)} : (M.md kvs).frz = .dic kvs := rfl
theorem hasD_md {kvs : List (Key × D)} : hasD (some (.md kvs)) = True := rfl
theorem small_md {kvs : List (Key × D)} : (M.md kvs).small = (kvs.length < sizeLine) := rfl
def lent (l : List (V × M)) (x0 : V) (P : List M → Prop) : Prop := match l with
  | [(x, m)] => x = x0 ∧ P [m]
  | _ => False
theorem lent1 {x x0 : V} {m : M} {P : List M → Prop} : lent [(x, m)] x0 P = (x = x0 ∧ P [m]) := rfl
theorem fin_t {x0 : V} {s : DSt} {P : List M → Prop} : fin true x0 s P = lent (pinsD s) x0 P := by
  unfold fin lent
  rfl
theorem pins_nil : pinsD [] = [] := rfl
theorem pins_p {x : V} {m : M} {s : DSt} : pinsD (.p x m :: s) = (x, m) :: pinsD s := rfl
theorem pins_v {m : M} {s : DSt} : pinsD (.v m :: s) = pinsD s := rfl
theorem pins_un {s : DSt} : pinsD (.un :: s) = pinsD s := rfl
theorem pins_free {sl : Slot} {s : DSt} (h : sl.pinned = false) : pinsD (sl :: s) = pinsD s := by
  cases sl with
  | p _ _ => cases h
  | _ => rfl
/-- f(x, ..), x lent -/
def slotL (ws : List W) (k : Nat → List W → Prop) (l : Lock k) : Prop := match ws with
  | .slot i :: r => k i r
  | _ => False
theorem slotL_s {i : Nat} {r : List W} {k l} : slotL (.slot i :: r) k l = k i r := rfl
def putB (s : DSt) (i : Nat) (ms : List M) (k : DSt → Prop) : Prop := match ms with
  | [m] => k (s.set i ((s[i]?.getD .un).put m))
  | _ => False
theorem putB_1 {s : DSt} {i : Nat} {m : M} {k} : putB s i [m] k = k (s.set i ((s[i]?.getD .un).put m)) := rfl
theorem s_callIO {E : Value → Pay → DSt → Prop} {C : CT} {ms : TDs} {s : DSt} {Q} : mCallIO E C ms s Q = ms s fun ws s1 => slotL ws (fun i rest => tvs rest s1 fun ms s2 => wD (slotM s2 i) (fun m0 => C (m0 :: ms) (fun r ms' => putB s2 i ms' fun s3 => Q (.val r) s3) fun cls pl ms' => putB s2 i ms' fun s3 => E cls pl s3) .mk) .mk := by
  unfold mCallIO
  congr 1
  funext ws s1
  cases ws with
  | nil => rfl
  | cons w r =>
    cases w with
    | val m => rfl
    | slot i =>
      simp only [slotL]
      congr 1
      funext ms s2
      unfold slotM wD putB
      cases s2[i]? with
      | none => rfl
      | some sl => cases sl <;> rfl
end DL

namespace DL
open PySem PySem.Spec L2
/-! ### try: a() / except E: return True // return False -/
def TTref (K : PySem.W.Frag) (CS : Addr) : (XK → Hp → VK → Prop) → Hp → VK → Prop := fun tl H Q =>
  tl (fun cls _ H' => ∃ b, PySem.W.exmOne K cls (.ref CS) = some b ∧ (b = true → Q (.bl true) H') ∧ (b = false → False)) H fun _ H' => Q (.bl false) H'
theorem ref_gives {X : Cx} {Ng : List Str} {x a e q : Str} {sg : Scope} {g CS : Addr} {cdg : Value} {j j2 : Nat} {p1 p2 p3 p4 p5 p6 p7 p8 p9 p10 : Pos} (hge : sg.names.lookup e = some .globalImplicit) (hme : X.mg e = some (.ref CS)) (hde : (e == ("__debug__" : Str)) = false) (h0 : ∀ f : Addr, (L2.start Ng [V.ref f])[0]? = some (some (V.ref f))) :
    LamX.GivesTo X Ng x sg g cdg [.Try [.Expr (.Call (.Name a p1) [] [] p2) p3] [.ExceptHandler (some (.Name e p4)) none [.Return (some (.Constant (.bool true) j p5)) p6] p7] [] [] p8, .Return (some (.Constant (.bool false) j2 p9)) p10] a q (TTref X.K CS) := by
  intro f c' s H Q tl act hc h
  have hgl : Gl (cxOf C8.CX0 X.prog X.w X.K X.mg X.base Ng x sg g cdg X.A X.stack s H C8.E0).nox e := hge
  refine ⟨_, pss_cons (ps_try_only (X := (cxOf C8.CX0 X.prog X.w X.K X.mg X.base Ng x sg g cdg X.A X.stack s H C8.E0).nox) (c := .ref CS)
      (tb := fun W D σ H => ∃ Ech : XK, (∀ cls d σ' H', Ech cls d H' → W cls d σ' H') ∧ σ[0]? = some (some (.ref f)) ∧ H c' = some (LamX.CodeO c' q) ∧ tl Ech H fun _ H' => D.nx σ H')
      rfl rfl ⟨hgl, hde, .inl hme⟩ LamX.takes0 (fun W pn xe tk _ => ?_) (fun a oe cls d pn _ _ => pss_one (ps_ret pe_bl))) (pss_one (ps_ret pe_bl)), ?_⟩
  · refine ⟨fun pins s' σ H' D I h' => ?_⟩
    obtain ⟨Ech, hW, h1, h2, h3⟩ := h'
    have hp := act W pn xe Ech p1 p2 tk hW
    have hq := pss_one (ps_expr (pos := p3) hp)
    exact hq.run pins s' σ H' D I ⟨h1, h2, h3⟩
  · exact ⟨fun cls _ H' => ∃ b, PySem.W.exmOne X.K cls (.ref CS) = some b ∧ (b = true → Q (.bl true) H') ∧ (b = false → False), fun cls d σ' H' ⟨b, e1, e2, e3⟩ => ⟨b, e1, fun hb a _ => e2 hb, fun hb => e3 hb⟩, h0 f, hc, h⟩
/-- what a lambda's body sees of a state: the frozen things -/
def hideS : Slot → Slot
  | .v (.fz d) => .v (.fz d)
  | _ => .un
def hide (s : DSt) : DSt := s.map hideS
theorem OwS.hide {K : PySem.W.Frag} {F H : Hp} : ∀ {σ : L2.St} {s : DSt} {A : List Addr}, OwS K F H σ s A → OwS K F H σ (DL.hide s) []
  | _, _, _, .nil => .nil
  | _, _, _, .un r => .un r.hide
  | _, _, _, .v w r => by
    cases w with
    | fz z => exact .v (A1 := []) (.fz z) r.hide
    | ml _ _ _ => exact .un r.hide
    | md _ _ _ => exact .un r.hide
    | mt _ _ _ => exact .un r.hide
  | _, _, _, .p w r => .un r.hide
/-- f(lambda: body), f as above: body's reading with what is raised; the own things are as before -/
def mRef (K : PySem.W.Frag) (CS : Addr) (m : (Value → Pay → DSt → Prop) → TD) : TD := fun s Q =>
  m (fun cls _ _ => PySem.W.exmOne K cls (.ref CS) = some true ∧ Q (.val (.fz (.bl true))) s) (hide s) fun _ _ => Q (.val (.fz (.bl false))) s
theorem s_ref {K : PySem.W.Frag} {CS : Addr} {m : (Value → Pay → DSt → Prop) → TD} {s : DSt} {Q} : mRef K CS m s Q = m (fun cls _ _ => PySem.W.exmOne K cls (.ref CS) = some true ∧ Q (.val (.fz (.bl true))) s) (hide s) fun _ _ => Q (.val (.fz (.bl false))) s := rfl
theorem TbF.tabs {T : List (Addr × Str)} {F H : Hp} (t : TbF T F) (sb : Sub F H) : LamX.Tabs T H := fun p hp => by
  have e := t.1 p hp
  rcases sb _ _ e with q | ⟨l, _⟩ | ⟨q, e2, ts⟩
  · exact tmark_tab q
  · exact l.elim
  · cases e2
    exact ts
theorem Lift.lam {Z : ZX} {CS : Addr} {t : XK → TE} {m : (Value → Pay → DSt → Prop) → TD} (l : ∀ (E : XK) (D : Value → Pay → DSt → Prop), Lift ⟨Z.K, fun cls d _ H' => E cls d H', D, Z.T⟩ (t E) (m D)) : Lift Z (LamX.tLam Z.T (TTref Z.K CS) t) (mRef Z.K CS m) := by
  intro σ H F A s Q Qd R h k
  refine ⟨R.ex.tb.tabs R.sub, fun H1 eN tb1 => ?_⟩
  have f0 : Frm F H [] F H1 [] := ⟨fun _ _ h => h, fun a o e _ hn => eN a o e hn, fun a ha => .inl ha, fun _ _ h => .inl h, fun _ _ h => h⟩
  have sb1 : Sub F H1 := fun a o e => by
    by_cases ht : ∃ ps, o = .tbl ps
    · obtain ⟨ps, rfl⟩ := ht
      obtain ⟨q, rfl, hq⟩ := R.ex.tb.2 a ps e
      exact .inr (.inr ⟨q, rfl, tb1 _ hq⟩)
    · have hn : ∀ ps, o ≠ .tbl ps := fun ps q => ht ⟨ps, q⟩
      rcases R.sub a o e with q | ⟨lk, ob, q⟩ | ⟨q, e2, _⟩
      · exact .inl (eN a o q hn)
      · exact .inr (.inl ⟨lk, ob, eN a _ q fun ps q => by cases q⟩)
      · exact absurd e2 (hn _)
  have ow1 : OwS Z.K F H1 σ s A := R.own.keep f0 fun a _ q => nomatch q
  -- what is behind the body: nothing of ours was touched
  have fin : ∀ (b : Bool) (F' H' : Hp) (A' : List Addr), Frm F H1 [] F' H' A' → Sub F' H' → Qd (.val (.fz (.bl b))) s → Q (.bl b) H' := fun b F' H' A' g sb q => by
    have g0 : Frm F H1 [] F' H' [] := g.weak fun a ha => (nomatch ha)
    have fA : Frm F H A F' H' A := (f0.trans0 g0).more (fun a ha => nomatch ha) (fun a ha => .inl ha)
    exact k _ s _ F' H' [] A q ⟨fA.weak fun a ha => by simpa using ha, sb, .val (.fz (.bl b)), ow1.keep g0 fun a _ q => (nomatch q), by simpa using R.nd⟩
  refine l _ _ σ H1 F [] (hide s) _ _ ⟨sb1, ow1.hide, List.nodup_nil, R.ex.tb, ?_⟩ h ?_
  · rintro cls d pl σ' s' F' H' A' g sb ow nd xp ⟨hm, q⟩
    exact ⟨true, hm, fun _ => fin true F' H' A' g sb q, fun e => by cases e⟩
  · intro w s' v F' H' Av A' q o
    exact fin false F' H' A' (o.fr.weak fun a ha => List.mem_append_right _ ha) o.sub q
end DL

namespace DL
open PySem PySem.Spec L2
section
variable {Z : ZX} {X : Cx}
theorem de_lamcall {x a e : Str} {st : Stmt} {g CS c P : Addr} {k : Nat} {Ng : List Str} {fd : FuncData} {params : Arguments} {body : Expr} {scope : Scope} {t : XK → TE} {m : (Value → Pay → DSt → Prop) → TD} {p lpos pos : Pos} {j j2 : Nat} {p1 p2 p3 p4 p5 p6 p7 p8 p9 p10 : Pos}
    (Fn : Fun X.K x x st g fd) (hm : X.mg x = some (.ref g)) (hb : ∀ us : List Value, us.length = ([a] : List Str).length → bindArgs fd ⟨us, []⟩ = pure (([a] : List Str).zip us)) (Sg : FnScope Ng [a] (defScope st))
    (hB : defBody st = [.Try [.Expr (.Call (.Name a p1) [] [] p2) p3] [.ExceptHandler (some (.Name e p4)) none [.Return (some (.Constant (.bool true) j p5)) p6] p7] [] [] p8, .Return (some (.Constant (.bool false) j2 p9)) p10])
    (hNg : Ng[0]? = some a) (hva : Vis (defScope st) a) (hge : (defScope st).names.lookup e = some .globalImplicit) (hme : X.mg e = some (.ref CS)) (h0 : ∀ f : Addr, (L2.start Ng [V.ref f])[0]? = some (some (V.ref f)))
    (TB : LamX.TabB X.base X.mg c P) (hcode : X.env.code = .ref c) (hmT : (P, X.env.qual ++ "<lambda>") ∈ Z.T) (hu : ∀ q ∈ Z.T, q.1 = P → q.2 = X.env.qual ++ "<lambda>") (hr : Room (k + 2) X.A) (L : LamX.LamS X.env.scope scope) (hK : X.K = Z.K) (hg : Gl X x)
    (hbody : ∀ (A : Around) (outer : List Env) (s : Shared) (H : Hp) (E : XK) (D : Value → Pay → DSt → Prop) (f c' : Addr), Room k (A.deeper (LamX.lamEnv X scope s.heap.objs.size f c')) → DE ⟨Z.K, fun cls d _ H' => E cls d H', D, Z.T⟩ (LamX.lamCx X A outer s H E scope f c') body (t E) (m D))
    (hl : ∀ (E : XK) (D : Value → Pay → DSt → Prop), Lift ⟨Z.K, fun cls d _ H' => E cls d H', D, Z.T⟩ (t E) (m D))
    (hdef : defaultsOf params X.env = ([], []) := by rfl) (hbind : ∀ (q : Str) (cl : List (Str × Addr)) (pm cv ctv : Value), bindArgs (PySem.W.kla_fn "<lambda>" q params body scope cl pm cv ctv) ⟨[], []⟩ = pure [] := by intros; rfl)
    (hde : (e == ("__debug__" : Str)) = false := by decide) (hdb : (x == ("__debug__" : Str)) = false := by decide) (hd : (a == ("__debug__" : Str)) = false := by decide) (hcd : (a == ("__classdict__" : Str)) = false := by decide) :
    DE Z X (.Call (.Name x p) [.Lambda params body scope lpos] [] pos) (LamX.tLam Z.T (TTref Z.K CS) t) (mRef Z.K CS m) := by
  refine ⟨?_, .lam hl⟩
  obtain ⟨oc, od, kV, doc, pm, an, cdv, ct, osl, rfl, lk, hcd0⟩ := Fn.ex
  rw [hB] at lk hb
  rw [← hK]
  exact LamX.pe_lamcall (Ng := Ng) hg hm Fn.kp lk hcd0 (.all hb) Sg hNg hva (ref_gives hge hme hde h0) TB hcode hmT hu hr L hdef hbind (fun A outer s H E f c' hr2 => (hbody A outer s H E (fun _ _ _ => False) f c' hr2).pe) hdb hd hcd
end
end DL

namespace DL
open PySem PySem.Spec L2
section
variable {Z : ZX} {X : Cx} {pos : Pos}
/-- raise C('..') -/
def mRaise (D : Value → Pay → DSt → Prop) (c : Value) : TSd := fun _ s => D c none s
theorem s_raise {D : Value → Pay → DSt → Prop} {c : Value} {D0 : DEnds} {s : DSt} : mRaise D c D0 s = D c none s := rfl
theorem LiftS.raise {c : Value} : LiftS Z (fun _ σ H => Z.W c none σ H) (mRaise Z.D c) := by
  intro σ H F A s D Dd R h e
  exact R.ex.im c none none σ s F H A Frm.refl R.sub R.own R.nd trivial h
theorem ds_raise {e : Expr} {c : Value} (hc : X.calm = true) (tk : Takes X Z.W) (he : PMk X e (fun _ H Q => Q c none H)) : DS Z X (.Raise (some e) none pos) (fun _ σ H => Z.W c none σ H) (mRaise Z.D c) :=
  ⟨ps_raise hc tk he, .raise⟩
/-- an own class under ValueError, without own __init__ -/
structure ExcC (K : PySem.W.Frag) (mg : Str → Option Value) (x : Str) (C : Addr) : Prop where
  mgc : mg x = some (.ref C)
  exc : PySem.W.excIn K C [.type "ValueError", .type "Exception", .type "BaseException", .type "object"] "ValueError.__new__" = true
  kp : PySem.W.keepIn K (.ref C) = true
  sub : PySem.W.subIn K (.ref C) (.type "BaseException") = some true
  ty : PySem.W.typeIn K (.ref C) = some (.type "type")
  ex : PySem.W.exmOne K (.ref C) (.ref C) = some true
theorem ds_raiseC {x m : Str} {j : Nat} {p p2 cp : Pos} {C : Addr} (e : ExcC X.K X.mg x C) (hc : X.calm = true) (tk : Takes X Z.W) (hg : Gl X x) (hdb : (x == ("__debug__" : Str)) = false := by decide) : DS Z X (.Raise (some (.Call (.Name x p) [.Constant (.str m) j p2] [] cp)) none pos) (fun _ σ H => Z.W (.ref C) none σ H) (mRaise Z.D (.ref C)) :=
  ds_raise hc tk (pmk_own PySem.F.excBase_ValueError e.exc e.mgc e.kp (raises_own e.sub e.ty) hg hdb)
end
end DL

namespace DL
open PySem PySem.Spec L2
/-! ### lambdas in a def -/
section
variable {Z : ZX} {X : Cx}
/-- what a lambda's body may let out -/
theorem takesLam {X : Cx} {A : Around} {outer : List Env} {s : Shared} {H : Hp} {E : XK} {scope : Scope} {f c' : Addr} {K : PySem.W.Frag} {D : Value → Pay → DSt → Prop} {T : List (Addr × Str)} :
    Takes (LamX.lamCx X A outer s H E scope f c') (ZX.mk K (fun cls d _ H' => E cls d H') D T).W := takes_of rfl rfl rfl rfl
theorem de_lamcallF {x a e : Str} {st : Stmt} {CS c P : Addr} {k : Nat} {Ng : List Str} {params : Arguments} {body : Expr} {scope : Scope} {t : XK → TE} {m : (Value → Pay → DSt → Prop) → TD} {p lpos pos : Pos} {j j2 : Nat} {p1 p2 p3 p4 p5 p6 p7 p8 p9 p10 : Pos}
    (Tf : TopFn X.K X.mg x st [a]) (Sg : FnScope Ng [a] (defScope st)) (hme : X.mg e = some (.ref CS)) (TB : LamX.TabB X.base X.mg c P) (hmT : (P, X.env.qual ++ "<lambda>") ∈ Z.T) (hu : ∀ q ∈ Z.T, q.1 = P → q.2 = X.env.qual ++ "<lambda>") (hr : Room (k + 2) X.A) (L : LamX.LamS X.env.scope scope)
    (hbody0 : ∀ (A : Around) (outer : List Env) (s : Shared) (H : Hp) (E : XK) (D : Value → Pay → DSt → Prop) (f c' : Addr), Room k (A.deeper (LamX.lamEnv X scope s.heap.objs.size f c')) → ∃ t' m', DE ⟨Z.K, fun cls d _ H' => E cls d H', D, Z.T⟩ (LamX.lamCx X A outer s H E scope f c') body t' m' ∧ t' = t E ∧ m' = m D)
    (hB : defBody st = [.Try [.Expr (.Call (.Name a p1) [] [] p2) p3] [.ExceptHandler (some (.Name e p4)) none [.Return (some (.Constant (.bool true) j p5)) p6] p7] [] [] p8, .Return (some (.Constant (.bool false) j2 p9)) p10])
    (hNg : Ng[0]? = some a) (hva : Vis (defScope st) a) (hge : (defScope st).names.lookup e = some .globalImplicit) (h0 : ∀ f : Addr, (L2.start Ng [V.ref f])[0]? = some (some (V.ref f)))
    (hcode : X.env.code = .ref c) (hK : X.K = Z.K) (hg : Gl X x)
    (hdef : defaultsOf params X.env = ([], []) := by rfl) (hbind : ∀ (q : Str) (cl : List (Str × Addr)) (pm cv ctv : Value), bindArgs (PySem.W.kla_fn "<lambda>" q params body scope cl pm cv ctv) ⟨[], []⟩ = pure [] := by intros; rfl)
    (hde : (e == ("__debug__" : Str)) = false := by decide) (hdb : (x == ("__debug__" : Str)) = false := by decide) (hd : (a == ("__debug__" : Str)) = false := by decide) (hcd : (a == ("__classdict__" : Str)) = false := by decide) :
    DE Z X (.Call (.Name x p) [.Lambda params body scope lpos] [] pos) (LamX.tLam Z.T (TTref Z.K CS) t) (mRef Z.K CS m) := by
  obtain ⟨g, fd, Fn, hm, hb⟩ := Tf
  have hbody : ∀ (A : Around) (outer : List Env) (s : Shared) (H : Hp) (E : XK) (D : Value → Pay → DSt → Prop) (f c' : Addr), Room k (A.deeper (LamX.lamEnv X scope s.heap.objs.size f c')) → DE ⟨Z.K, fun cls d _ H' => E cls d H', D, Z.T⟩ (LamX.lamCx X A outer s H E scope f c') body (t E) (m D) := fun A outer s H E D f c' h => by
    obtain ⟨_, _, h, rfl, rfl⟩ := hbody0 A outer s H E D f c' h
    exact h
  have hl : ∀ (E : XK) (D : Value → Pay → DSt → Prop), Lift ⟨Z.K, fun cls d _ H' => E cls d H', D, Z.T⟩ (t E) (m D) := fun E D =>
    (hbody X.A [] X.s_0 X.H_0 E D 0 0 ((hr.mono (Nat.le_succ (k + 1))).deeper _)).lf
  exact de_lamcall Fn hm hb Sg hB hNg hva hge hme h0 TB hcode hmT hu hr L hK hg hbody hl hdef hbind hde hdb hd hcd
end
/-! ### the end with the law's own table -/
theorem exm_of {K : PySem.W.Frag} {C : Addr} (b : PySem.W.subIn K (.ref C) (.type "BaseException") = some true) (i : PySem.W.isClsIn K C = true) (t : PySem.W.typeIn K (.ref C) = some (.type "type")) (s : PySem.W.subIn K (.ref C) (.ref C) = some true) : PySem.W.exmOne K (.ref C) (.ref C) = some true := by
  unfold PySem.W.exmOne PySem.W.kitCls
  have hi : (PySem.W.clsIn K C).isSome = true := i
  simp [b, t, s, hi]
theorem topFnC_mk {K : PySem.W.Frag} {h : Heap} {mg : Str → Option Value} {x : Str} {st : Stmt} {ps : List Str} {f c : Addr} {oc : Value} {od an : Option Addr} {osl : Array (Option Value)} {kV doc pm ct : Value} (X : K.In h) (G : h.Ns mainGlobals mg)
    (a : PySem.W.nsIn K mainGlobals x = some (some (.ref f))) (l : K.lookup f = some ⟨oc, od, .func (PySem.W.fnOf x x (defArgs st) (defBody st) (defScope st) .none kV doc pm an (.ref c) ct), osl⟩) (hc : PySem.W.codeIn K (.ref c) x = true) (k : PySem.W.keepIn K (.ref f) = true)
    (hb : ∀ (kV doc pm : Value) (an : Option Addr) (cdv ct : Value) (us : List Value), us.length = ps.length → bindArgs (PySem.W.fnOf x x (defArgs st) (defBody st) (defScope st) .none kV doc pm an cdv ct) ⟨us, []⟩ = pure (ps.zip us)) : TopFnC K mg x st ps c :=
  ⟨f, _, fun_mk l hc k, PySem.W.mg_of X G a, hb _ _ _ _ _ _, rfl⟩
theorem codeHd_mk {K : PySem.W.Frag} {h : Heap} {c P : Addr} {dd : Option Addr} {vs : Array Value} {sl : Array (Option Value)} {file : Str} {tf tg tt : Tok} {flags text : Int} {inF : Bool} (X : K.In h) (l : K.lookup c = some ⟨.type "code", dd, .fields vs, sl⟩) (h1 : vs[11]? = some (.ref P)) (h2 : vs.getD 11 .none = .ref P) (h3 : vs.getD 18 .none = .str file tf)
    (h4 : vs.getD 7 .none = .int flags tg) (h5 : vs.getD 9 .none = .bool inF) (h6 : vs.getD 10 .none = .int text tt) (h7 : c ≠ P) : PySem.W.CodeHd h c P :=
  ⟨_, vs, file, tf, flags, tg, inF, text, tt, X _ _ l, rfl, rfl, h1, h2, h3, h4, h5, h6, h7⟩
theorem law_spT {K : PySem.W.Frag} {H : Hp} {a PT : Addr} {q : Str} {ns : List Int} {c : CT} (hT : H PT = some (.tbl #[])) (hS : SqL K H a (ns.map V.int)) (hc : ∀ (R : M → List M → Prop) (X : Value → Pay → List M → Prop), R (.fz (.bl true)) [] → c [.fz (.scr ns)] R X) : spD K [(PT, q)] false c [.ref a] H (fun v _ => v = .bl true) fun _ _ _ => False := by
  classical
  let F : Hp := fun b => if b = PT then some (tmark q) else match H b with
    | some (.tbl _) => none
    | o => o
  have fp : F PT = some (tmark q) := if_pos rfl
  have fo : ∀ b o, b ≠ PT → (∀ ps, o ≠ .tbl ps) → H b = some o → F b = some o := fun b o hb hn e => by
    show (if b = PT then _ else _) = _
    rw [if_neg hb, e]
    cases o <;> first | rfl | exact absurd rfl (hn _)
  have fb : ∀ b o, b ≠ PT → F b = some o → H b = some o ∧ ∀ ps, o ≠ .tbl ps := fun b o hb e => by
    have e : (if b = PT then some (tmark q) else match H b with | some (.tbl _) => none | o => o) = some o := e
    rw [if_neg hb] at e
    split at e
    · cases e
    · rename_i hn
      refine ⟨e, fun ps z => ?_⟩
      subst z
      exact hn _ e
  refine ⟨F, [], [.fz (.scr ns)], fun r _ => r = .fz (.bl true), fun _ _ _ => False, ⟨fun p hp => ?_, fun b ps e => ?_⟩, fun b o e => ?_, .cons (A1 := []) (A2 := []) (.fz (.scr ?_)) .nil, List.nodup_nil, hc _ _ rfl, ?_, fun _ _ _ _ _ _ _ h => h.elim⟩
  · obtain rfl := List.mem_singleton.mp hp
    exact fp
  · by_cases hb : b = PT
    · subst hb
      rw [fp] at e
      unfold tmark at e
      cases e
      exact ⟨q, rfl, List.mem_singleton.mpr rfl⟩
    · exact absurd rfl ((fb b _ hb e).2 ps)
  · by_cases hb : b = PT
    · subst hb
      rw [fp] at e
      cases e
      exact .inr (.inr ⟨q, rfl, LamX.TabS.nil hT⟩)
    · exact .inl (fb b o hb e).1
  · rcases hS with h | h
    · refine .inl ?_
      rcases h with h | ⟨ob, h⟩
      · exact .inl (fo a _ (fun z => by subst z; rw [hT] at h; cases h) (fun _ z => by cases z) h)
      · exact .inr ⟨ob, fo a _ (fun z => by subst z; rw [hT] at h; cases h) (fun _ z => by cases z) h⟩
    · exact .inr h
  · rintro r ms' v F' H' Av A' rfl - - ow - -
    cases ow with
    | fz z => cases z; rfl
theorem law_at {l : PySem.W.OpenLaw} {w : World} {K : PySem.W.Frag} {mg : Str → Option Value} {fa : Addr} {h : Heap} {st : Stmt} {x : Str} {c : CT} {n k : Nat} {cL PT : Addr} {q : Str} (Tf : TopFnC K mg "law" st [x] cL) (hfa : mg "law" = some (.ref fa))
    (hT : h.get? PT = some { cls := .none, data := .fields #[] }) (nT : K.lookup PT = none) (C : PySem.W.CodeHd h cL PT)
    (hc : ∀ (ns : List Int) (R : M → List M → Prop) (X : Value → Pay → List M → Prop), ns.length ≤ n → R (.fz (.bl true)) [] → c [.fz (.scr ns)] R X)
    (G : ∀ base : Heap, K.In base → base.Ns mainGlobals mg → LamX.TabB base mg cL PT → FnAt l.prog w K mg base [(PT, q)] k "law" [x] false c) : LamX.LawAtS l w K (L2.CX l.prog w) k n x mg fa h := by
  obtain ⟨f, fd, Fn, hm, hb, hcd⟩ := Tf
  rw [hfa] at hm
  cases hm
  refine ⟨fd, [(cL, PT)], spD K [(PT, q)] false c, fun p hp => ?_, fun p hp => ?_, fun p hp => ?_, fun s v => .of_eq (hb [v] rfl), fun H a ns hl hbits hH hS => ?_, fun base hK hN hTB => ?_⟩
  · obtain rfl := List.mem_singleton.mp hp; exact hT
  · obtain rfl := List.mem_singleton.mp hp; exact nT
  · obtain rfl := List.mem_singleton.mp hp; exact C
  · exact law_spT (hH _ (List.mem_singleton.mpr rfl)) hS fun R X hR => hc ns R X hl hR
  · obtain ⟨f', fd', ok, hm', _, _, st', Fn'⟩ := G base hK hN (hTB _ (List.mem_singleton.mpr rfl))
    rw [hfa] at hm'
    cases hm'
    rw [Fun.same Fn Fn']
    exact ok
theorem law_walkT {l : PySem.W.OpenLaw} {q : Program} {loose : List Str} {XP : (Str → Option Value) → Heap → Prop} {YP : World → Heap → Prop} {d : DefRec} {K : Params → PySem.W.Frag} {x : Str} {k : Nat} (hn : l.most = some 63) (hdf : d.params.defaults = []) (hr : Room k callerA) (hrec : ((PyProof.Rows.recsOf q).any fun e => e.name == d.name) = true)
    (hY : ∀ (w : World) (h : Heap), YP w h → (K w.params).In h)
    (F : ∀ (w : World) (mg : Str → Option Value) (fa : Addr) (h : Heap), (K w.params).In h → h.Ns mainGlobals mg → mg d.name = some (.ref fa) → LamX.OwnTab (K w.params) fa h → LamX.LawAtS l w (K w.params) (L2.CX l.prog w) k 63 x mg fa h) :
    PySem.W.WalkO q loose XP YP l.row.toRowW d [] (fun f vs => PySem.call f vs) :=
  LamX.walk_ofOwn (n := 63) (k := k) (x := x) (CX := fun w => L2.CX l.prog w) hn (by decide) hdf hr hrec hY (fun w mg fa h _ KX G hm O => F w mg fa h KX G hm O) fun _ _ _ _ _ z => by
    obtain ⟨_, _, _, _, _, _, _, _, _, _, _, _, h⟩ := z
    exact h
end DL

namespace DL
open PySem PySem.Spec L2
section
variable {Z : ZX} {X : Cx} {pos : Pos}
/-! ### tuple(range(..)), list(range(..)) -/
abbrev TRg := DSt → (Int → Int → DSt → Prop) → Prop
def mRg1 (m : TD) : TRg := fun s R => m s fun w s1 => ∃ j : Int, res s1 w = some (.int j) ∧ R 0 j s1
def mRg2 (ma mb : TD) : TRg := fun s R => ma s fun wa s1 => mb s1 fun wb s2 => ∃ x y, res s2 wa = some x ∧ res s2 wb = some y ∧ ∃ i j : Int, x = .int i ∧ y = .int j ∧ R i j s2
def LiftRg (Z : ZX) (te : L2.St → Hp → (Int → Int → Hp → Prop) → Prop) (m : TRg) : Prop := ∀ (σ : L2.St) (H F : Hp) (A : List Addr) (s : DSt) (Q : Int → Int → Hp → Prop) (Qd : Int → Int → DSt → Prop), Rel Z F H σ s A → m s Qd →
  (∀ a b s' F' H' A', Qd a b s' → OutT Z.K F H A σ s' F' H' A' → Q a b H') → te σ H Q
theorem Out.t1 {K : PySem.W.Frag} {F H F1 H1 : Hp} {A Av A1 : List Addr} {σ : L2.St} {w : W} {s1 : DSt} {v : V} (o : Out K F H A σ w s1 v F1 H1 Av A1) : OutT K F H A σ s1 F1 H1 A1 := ⟨o.fr.weak fun a h => List.mem_append_right _ h, o.sub, o.own, nd_r o.nd⟩
theorem LiftRg.one {t : TE} {m : TD} (l : Lift Z t m) : LiftRg Z (tRg1 t) (mRg1 m) := by
  intro σ H F A s Q Qd R h k
  refine l σ H F A s _ _ R h fun w s1 v F1 H1 Av A1 h1 o1 => ?_
  obtain ⟨j, e, q⟩ := h1
  have z := o1.wow.view o1.sub o1.own e
  cases z
  exact ⟨j, rfl, k _ _ _ _ _ _ q o1.t1⟩
theorem LiftRg.two {ta tb : TE} {ma mb : TD} (la : Lift Z ta ma) (lb : Lift Z tb mb) : LiftRg Z (tRg2 ta tb) (mRg2 ma mb) := by
  intro σ H F A s Q Qd R h k
  refine la σ H F A s _ _ R h fun wa s1 va F1 H1 Aa A1 h1 o1 => ?_
  refine lb σ H1 F1 A1 s1 _ _ (o1.rel R) h1 fun wb s2 vb F2 H2 Ab A2 h2 o2 => ?_
  obtain ⟨x, y, ex, ey, i, j, rfl, rfl, q⟩ := h2
  have p := o1.seq o2
  have z1 := p.wa.view p.sub p.own ex
  have z2 := p.wb.view p.sub p.own ey
  cases z1
  cases z2
  exact ⟨i, j, rfl, rfl, k _ _ _ _ _ _ q ⟨p.fr.weak fun a h => by simp [h], p.sub, p.own, nd_r p.nd⟩⟩
theorem fzs_rng {K : PySem.W.Frag} {H : Hp} (a b : Int) : Fzs K H (rgV a b) (rng a (b - a).toNat) := by
  unfold rgV rng
  generalize List.range (b - a).toNat = l
  induction l with
  | nil => exact .nil
  | cons i r ih => exact .cons (.int _) ih
def mTupRg (m : TRg) : TD := fun s Q => m s fun a b s1 => RgOk a b ∧ Q (.val (.fz (.tup (rng a (b - a).toNat)))) s1
def mLstRg (m : TRg) : TD := fun s Q => m s fun a b s1 => RgOk a b ∧ Q (.val (.ml (rng a (b - a).toNat))) s1
theorem s_tupRg {m : TRg} {s : DSt} {Q} : mTupRg m s Q = m s fun a b s1 => RgOk a b ∧ Q (.val (.fz (.tup (rng a (b - a).toNat)))) s1 := rfl
theorem s_lstRg {m : TRg} {s : DSt} {Q} : mLstRg m s Q = m s fun a b s1 => RgOk a b ∧ Q (.val (.ml (rng a (b - a).toNat))) s1 := rfl
theorem s_rg1 {m : TD} {s : DSt} {R} : mRg1 m s R = m s fun w s1 => wD (res s1 w) (fun x => asI x (fun j => R 0 j s1) .mk) .mk := by
  unfold mRg1
  simp only [isI_eq]
theorem s_rg2 {ma mb : TD} {s : DSt} {R} : mRg2 ma mb s R = ma s fun wa s1 => mb s1 fun wb s2 => wD (res s2 wa) (fun x => wD (res s2 wb) (fun y => asI x (fun i => asI y (fun j => R i j s2) .mk) .mk) .mk) .mk := by
  unfold mRg2
  have : ∀ (ox oy : Option D) (Q : Int → Int → Prop), (∃ x y, ox = some x ∧ oy = some y ∧ ∃ i j : Int, x = .int i ∧ y = .int j ∧ Q i j) = wD ox (fun x => wD oy (fun y => asI x (fun i => asI y (fun j => Q i j) .mk) .mk) .mk) .mk := by
    intro ox oy Q
    cases ox <;> cases oy <;> simp [wD, asI]
    rename_i x y
    cases x <;> cases y <;> simp
  simp only [this]
theorem Lift.tupRg {te} {m : TRg} (l : LiftRg Z te m) : Lift Z (tTupRg te) (mTupRg m) := by
  intro σ H F A s Q Qd R h k
  refine l σ H F A s _ _ R h fun a b s1 F1 H1 A1 h1 o1 => ?_
  obtain ⟨hr, q⟩ := h1
  refine ⟨hr, fun p hp => ?_⟩
  obtain ⟨g, sb, ow⟩ := new_tup o1.sub hp (fzs_rng (K := Z.K) (H := F1) a b)
  exact k _ _ _ _ _ _ _ q (Out.fin (B := []) (o1.fr.weak fun a h => by simpa using h) o1.own (by simpa using o1.nd) g sb ow List.nodup_nil)
theorem Lift.lstRg {te} {m : TRg} (l : LiftRg Z te m) : Lift Z (tLstRg te) (mLstRg m) := by
  intro σ H F A s Q Qd R h k
  refine l σ H F A s _ _ R h fun a b s1 F1 H1 A1 h1 o1 => ?_
  obtain ⟨hr, q⟩ := h1
  refine ⟨hr, fun p hp => ?_⟩
  obtain ⟨g, sb, ow⟩ := new_lst o1.sub hp (fzs_rng (K := Z.K) (H := F1) a b)
  exact k _ _ _ _ _ _ _ q (Out.fin (B := []) (o1.fr.weak fun a h => by simpa using h) o1.own (by simpa using o1.nd) g sb ow (by simp))
/-- an expression that makes a range -/
structure DRg (Z : ZX) (X : Cx) (e : Expr) (t : L2.St → Hp → (Int → Int → Hp → Prop) → Prop) (m : TRg) : Prop where
  p : PRg X e t
  l : LiftRg Z t m
theorem drg_1 {a : Expr} {t : TE} {m : TD} {p : Pos} (hg : Gl X "range") (hm : X.mg "range" = none) (ha : DE Z X a t m) (na : starEach [a] X.env = (false, eval a X.env) :: starEach [] X.env := by rfl) : DRg Z X (.Call (.Name "range" p) [a] [] pos) (tRg1 t) (mRg1 m) := ⟨prg_1 hg hm ha.pe na, .one ha.lf⟩
theorem drg_2 {a b : Expr} {t u : TE} {m n : TD} {p : Pos} (hg : Gl X "range") (hm : X.mg "range" = none) (ha : DE Z X a t m) (hb : DE Z X b u n) (na : starEach [a, b] X.env = (false, eval a X.env) :: starEach [b] X.env := by rfl) (nb : starEach [b] X.env = (false, eval b X.env) :: starEach [] X.env := by rfl) (hp : (backTo pos (starEach [b] X.env)).any (·.1) = false := by rfl) : DRg Z X (.Call (.Name "range" p) [a, b] [] pos) (tRg2 t u) (mRg2 m n) := ⟨prg_2 hg hm ha.pe hb.pe na nb hp, .two ha.lf hb.lf⟩
theorem de_tupRg {e : Expr} {t} {m : TRg} {p : Pos} (hc : X.calm = true) (hg : Gl X "tuple") (hm : X.mg "tuple" = none) (h : DRg Z X e t m) (na : starEach [e] X.env = (false, eval e X.env) :: starEach [] X.env := by rfl) : DE Z X (.Call (.Name "tuple" p) [e] [] pos) (tTupRg t) (mTupRg m) := ⟨pe_tupRg hc hg hm h.p na, .tupRg h.l⟩
theorem de_lstRg {e : Expr} {t} {m : TRg} {p : Pos} (hc : X.calm = true) (hg : Gl X "list") (hm : X.mg "list" = none) (h : DRg Z X e t m) (na : starEach [e] X.env = (false, eval e X.env) :: starEach [] X.env := by rfl) : DE Z X (.Call (.Name "list" p) [e] [] pos) (tLstRg t) (mLstRg m) := ⟨pe_listRg hc hg hm h.p na, .lstRg h.l⟩
end
end DL

namespace DL
open PySem PySem.Spec L2
/-! ### loops and comprehensions over typed lists -/
def isq (lo : Int) (n : Nat) : List Int := (List.range n).map fun i => lo + (i : Nat)
theorem rng_isq {lo : Int} {n : Nat} : rng lo n = (isq lo n).map .int := by simp [rng, isq, Function.comp_def]
theorem isq_len {lo : Int} {n : Nat} : (isq lo n).length = n := by simp [isq]
theorem isq_mem {lo x : Int} {n : Nat} : x ∈ isq lo n ↔ lo ≤ x ∧ x < lo + n := by
  simp only [isq, List.mem_map, List.mem_range]
  constructor
  · rintro ⟨i, hi, rfl⟩; omega
  · rintro ⟨h1, h2⟩; exact ⟨(x - lo).toNat, by omega, by omega⟩
theorem isq_get {lo : Int} {n i : Nat} {x : Int} (h : (isq lo n)[i]? = some x) : i < n ∧ x = lo + (i : Nat) := by
  simp only [isq, List.getElem?_map, Option.map_eq_some_iff] at h
  obtain ⟨j, hj, rfl⟩ := h
  obtain ⟨h1, h2⟩ := List.getElem?_eq_some_iff.mp hj
  simp at h1 h2
  exact ⟨h1, by rw [h2]⟩
theorem map_get {α β : Type} {xs : List α} {f : α → β} {i : Nat} {d : β} (h : (xs.map f)[i]? = some d) : ∃ x, xs[i]? = some x ∧ d = f x := by
  rw [List.getElem?_map, Option.map_eq_some_iff] at h
  obtain ⟨x, hx, rfl⟩ := h
  exact ⟨x, hx, rfl⟩
section
variable {α : Type} {xs : List α} {emb : α → D} {D0 : DEnds} {a : TSd} {g : TGd} {s : DSt} {mt : TTd} {me : TD} {vs : List Nat} {Q : W → DSt → Prop} {l : Lock Q}
theorem for_ofE (P : Nat → DSt → Prop) (h0 : P 0 s) (hs : ∀ (i : Nat) x s, xs[i]? = some x → P i s → ∀ (N B : DSt → Prop) (R : M → DSt → Prop), (∀ s, P (i + 1) s → N s) → B = D0.nx → R = D0.rt → g (.fz (emb x)) s fun s2 => a ⟨N, R, B, N⟩ s2)
    (hd : ∀ s, P xs.length s → D0.nx s) : FoR (xs.map emb) g a D0 s := by
  refine for_of P h0 (fun i d s hd hp => ?_) fun s h => hd s (by simpa using h)
  obtain ⟨x, hx, rfl⟩ := map_get hd
  exact hs i x s hx hp
theorem for_rng {lo : Int} {n : Nat} (P : Nat → DSt → Prop) (h0 : P 0 s) (hs : ∀ (i : Nat) s, i < n → P i s → ∀ (N B : DSt → Prop) (R : M → DSt → Prop), (∀ s, P (i + 1) s → N s) → B = D0.nx → R = D0.rt → g (.fz (.int (lo + (i : Nat)))) s fun s2 => a ⟨N, R, B, N⟩ s2)
    (hd : ∀ s, P n s → D0.nx s) : FoR (rng lo n) g a D0 s := by
  refine for_of P h0 (fun i d s hd hp => ?_) fun s h => hd s (by simpa [rng_len] using h)
  obtain ⟨hi, rfl⟩ := rng_get hd
  exact hs i s hi hp
theorem take_map {β : Type} {f : α → β} {i : Nat} {x : α} (h : xs[i]? = some x) : (xs.take (i + 1)).map f = (xs.take i).map f ++ [f x] := by
  rw [List.take_succ, h]; simp
theorem take_filter {p : α → Bool} {i : Nat} {x : α} (h : xs[i]? = some x) : (xs.take (i + 1)).filter p = (xs.take i).filter p ++ (if p x = true then [x] else []) := by
  rw [List.take_succ, h, List.filter_append]
  cases hp : p x <;> simp [hp]
theorem lcR_fmE (S : DSt → Prop) (p : α → Bool) (f : α → D) (hl : xs.length ≤ sizeLine) (h0 : S s)
    (hb : ∀ x ∈ xs, ∀ s, S s → ∀ (R : M → DSt → Prop) (R' : DSt → Prop), (∀ y s', p x = true → y.frz = f x → S s' → R y s') → (∀ s', p x = false → S s' → R' s') → freeAt s vs = true ∧ g (.fz (emb x)) (wipeD s vs) fun s2 => mt s2 fun b s3 => br b (fun s3 => me s3 fun w s4 => tv w s4 fun y s5 => R y (unw s s5 vs)) .mk (fun s3 => R' (unw s s3 vs)) .mk s3)
    (hq : ∀ s', S s' → Q (.val (.ml ((xs.filter p).map f))) s') : LcR (xs.map emb) g mt me vs Q l s := by
  refine ⟨fun i acc s => acc = ((xs.take i).filter p).map f ∧ S s, ⟨by simp, h0⟩, ?_, ?_⟩
  · rintro i d acc s hd ⟨rfl, hs⟩
    obtain ⟨x, hx, rfl⟩ := map_get hd
    have hi := (List.getElem?_eq_some_iff.mp hx).1
    have hlen : (((xs.take i).filter p).map f).length < sizeLine := by
      rw [List.length_map]
      exact Nat.lt_of_le_of_lt (List.length_filter_le _ _) (by simp; omega)
    refine hb x (List.mem_of_getElem? hx) s hs (fun y s' => (((xs.take i).filter p).map f).length < sizeLine ∧ ((xs.take i).filter p).map f ++ [y.frz] = ((xs.take (i + 1)).filter p).map f ∧ S s') (fun s' => ((xs.take i).filter p).map f = ((xs.take (i + 1)).filter p).map f ∧ S s') ?_ ?_
    · intro y s' hp e h
      refine ⟨hlen, ?_, h⟩
      rw [take_filter hx, if_pos hp, e]; simp
    · intro s' hp h
      refine ⟨?_, h⟩
      rw [take_filter hx, hp]; simp
  · rintro acc s ⟨rfl, h⟩
    rw [List.length_map, List.take_length]
    exact hq s h
theorem lcR_mapE (S : DSt → Prop) (f : α → D) (hl : xs.length ≤ sizeLine) (h0 : S s)
    (hb : ∀ x ∈ xs, ∀ s, S s → ∀ (R : M → DSt → Prop), (∀ y s', y.frz = f x → S s' → R y s') → freeAt s vs = true ∧ g (.fz (emb x)) (wipeD s vs) fun s2 => me s2 fun w s4 => tv w s4 fun y s5 => R y (unw s s5 vs))
    (hq : ∀ s', S s' → Q (.val (.ml (xs.map f))) s') : LcR (xs.map emb) g mYes me vs Q l s := by
  refine lcR_fmE S (fun _ => true) f hl h0 (fun x hx s hs R R' h1 h2 => hb x hx s hs R fun y s' e h => h1 y s' rfl e h) fun s' hs => ?_
  have := hq s' hs
  rwa [List.filter_eq_self.mpr (fun _ _ => rfl)]
/-- of the chosen ones nothing is known but that they stand in xs in this order -/
theorem lcR_subE (S : DSt → Prop) (f : α → D) (hl : xs.length ≤ sizeLine) (h0 : S s)
    (hb : ∀ x ∈ xs, ∀ s, S s → ∀ (R : M → DSt → Prop) (R' : DSt → Prop), (∀ y s', y.frz = f x → S s' → R y s') → (∀ s', S s' → R' s') → freeAt s vs = true ∧ g (.fz (emb x)) (wipeD s vs) fun s2 => mt s2 fun b s3 => br b (fun s3 => me s3 fun w s4 => tv w s4 fun y s5 => R y (unw s s5 vs)) .mk (fun s3 => R' (unw s s3 vs)) .mk s3)
    (hq : ∀ (ys : List α) s', ys.Sublist xs → S s' → Q (.val (.ml (ys.map f))) s') : LcR (xs.map emb) g mt me vs Q l s := by
  refine ⟨fun i acc s => (∃ ys : List α, ys.Sublist (xs.take i) ∧ acc = ys.map f) ∧ S s, ⟨⟨[], by simp, rfl⟩, h0⟩, ?_, ?_⟩
  · rintro i d acc s hd ⟨⟨ys, hy, rfl⟩, hs⟩
    obtain ⟨x, hx, rfl⟩ := map_get hd
    have hi := (List.getElem?_eq_some_iff.mp hx).1
    have hlen : (ys.map f).length < sizeLine := by
      have := hy.length_le
      simp at this ⊢
      omega
    have e1 : xs.take (i + 1) = xs.take i ++ [x] := by rw [List.take_succ, hx]; rfl
    refine hb x (List.mem_of_getElem? hx) s hs (fun y s' => (ys.map f).length < sizeLine ∧ (∃ zs : List α, zs.Sublist (xs.take (i + 1)) ∧ ys.map f ++ [y.frz] = zs.map f) ∧ S s') (fun s' => (∃ zs : List α, zs.Sublist (xs.take (i + 1)) ∧ ys.map f = zs.map f) ∧ S s') ?_ ?_
    · intro y s' e h
      exact ⟨hlen, ⟨ys ++ [x], by rw [e1]; exact hy.append (List.Sublist.refl _), by rw [e]; simp⟩, h⟩
    · intro s' h
      exact ⟨⟨ys, by rw [e1]; exact hy.trans (List.sublist_append_left _ _), rfl⟩, h⟩
  · rintro acc s ⟨⟨ys, hy, rfl⟩, h⟩
    rw [List.length_map, List.take_length] at hy
    exact hq ys s hy h
/-- of each made one Pp is known -/
theorem lcR_allE (S : DSt → Prop) (Pp : D → Prop) (hl : xs.length ≤ sizeLine) (h0 : S s)
    (hb : ∀ x ∈ xs, ∀ s, S s → ∀ (R : M → DSt → Prop), (∀ y s', Pp y.frz → S s' → R y s') → freeAt s vs = true ∧ g (.fz (emb x)) (wipeD s vs) fun s2 => me s2 fun w s4 => tv w s4 fun y s5 => R y (unw s s5 vs))
    (hq : ∀ es s', es.length = xs.length → (∀ e ∈ es, Pp e) → S s' → Q (.val (.ml es)) s') : LcR (xs.map emb) g mYes me vs Q l s := by
  refine lcR_all S Pp (by simpa using hl) h0 (fun d hd s hs R hR => ?_) fun es s' e hp h => hq es s' (by simpa using e) hp h
  obtain ⟨x, hx, rfl⟩ := List.mem_map.mp hd
  exact hb x hx s hs R hR
end
end DL

namespace DL
open PySem PySem.Spec L2
/-! ### order of plain data -/
theorem dlt_negTrans {a b c : PyData} (h : PySem.W.dataLt a c = true) : PySem.W.dataLt a b = true ∨ PySem.W.dataLt b c = true := PyProof.Rows.lex_negTrans _ _ _ h
theorem dlt_irrefl (a : PyData) : PySem.W.dataLt a a = false := PyProof.Rows.lex_irrefl _
theorem dlt_trans {a b c : PyData} (h : PySem.W.dataLt a b = true) (h' : PySem.W.dataLt b c = true) : PySem.W.dataLt a c = true := PyProof.Rows.lex_trans _ _ _ h h'
theorem sortD_perm (ds : List D) : (sortD ds).Perm ds := List.mergeSort_perm _ _
theorem sortD_sorted (ds : List D) : (sortD ds).Pairwise fun a b => PySem.W.dataLt b.py a.py = false := by
  have h := List.pairwise_mergeSort (le := PySem.W.dataLe false D.py) (fun a b c h1 h2 => by
    simp only [PySem.W.dataLe_eq, cond_false, Bool.not_eq_true'] at h1 h2 ⊢
    cases e : PySem.W.dataLt c.py a.py with
    | false => rfl
    | true => rcases dlt_negTrans (b := b.py) e with q | q <;> simp_all) (fun a b => by
    simp only [PySem.W.dataLe_eq, cond_false]
    cases e : PySem.W.dataLt b.py a.py with
    | false => rfl
    | true =>
      cases e2 : PySem.W.dataLt a.py b.py with
      | false => rfl
      | true => have := dlt_trans e e2; rw [dlt_irrefl] at this; cases this) ds
  refine List.Pairwise.imp (fun {a b} h => ?_) h
  simpa [PySem.W.dataLe_eq] using h
/-- values that are compared as lt tells -/
structure EncL {α : Type} (e : α → D) (ok : α → Prop) (lt : α → α → Bool) : Prop where
  alk : ∀ a b, ok a → ok b → PySem.W.alike (e a).py (e b).py = true
  ltv : ∀ a b, ok a → ok b → PySem.W.dataLt (e a).py (e b).py = lt a b
section
variable {α β : Type} {n m : Nat} {e : α → D} {ok : α → Prop} {lt : α → α → Bool} {e' : β → D} {ok' : β → Prop} {lt' : β → β → Bool}
theorem EncL.int : EncL D.int (fun _ => True) (fun a b => decide (a < b)) := ⟨fun a b _ _ => by simp [D.py, PySem.W.alike], fun a b _ _ => by simp only [D.py]; exact PySem.W.dataLt_int a b⟩
theorem EncL.tupI : EncL DL.tupI (fun _ => True) (fun a b => decide (a < b)) := ⟨fun a b _ _ => alike_tupI a b, fun a b _ _ => by
  have e : ∀ l : List Int, (DL.tupI l).py = .tuple (l.map .int) := fun l => by
    unfold DL.tupI
    simp only [D.py]
    rw [pys_map]
    rfl
  rw [e, e, PySem.W.dataLt_tuple]
  exact PySem.W.dataLt_ints a b⟩
/-- pairs -/
def ltP (eqb : α → α → Bool) (lt : α → α → Bool) (lt' : β → β → Bool) (p q : α × β) : Bool := if eqb p.1 q.1 = true then lt' p.2 q.2 else lt p.1 q.1
theorem EncL.pair [DecidableEq α] (k : Enc n e ok) (h : EncL e ok lt) (h' : EncL e' ok' lt') : EncL (fun p : α × β => .tup [e p.1, e' p.2]) (fun p => ok p.1 ∧ ok' p.2) (ltP (fun a b => decide (a = b)) lt lt') := by
  refine ⟨fun p q g g' => ?_, fun p q g g' => ?_⟩
  · simp only [D.py, D.pys, PySem.W.alike, PySem.W.alikeAll, h.alk _ _ g.1 g'.1, h'.alk _ _ g.2 g'.2]
    rfl
  · simp only [D.py, D.pys]
    rw [PySem.W.dataLt_pair (h.alk _ _ g.1 g'.1) (h'.alk _ _ g.2 g'.2), k.eqB _ _ g.1 g'.1]
    unfold ltP
    by_cases e1 : p.1 = q.1
    · simp only [e1, decide_true, if_true]
      split
      · rename_i h2
        rw [← h'.ltv _ _ g.2 g'.2]
        have t1 := PySem.W.toks_eqv _ _ (h'.alk _ _ g.2 g'.2)
        have t2 := t1.1 h2
        unfold PySem.W.dataLt
        rw [t2]
        exact (PyProof.Rows.lex_irrefl _).symm
      · exact h'.ltv _ _ g.2 g'.2
    · simp only [e1, decide_false, Bool.false_eq_true, if_false]
      exact h.ltv _ _ g.1 g'.1
/-- sorted -/
theorem EncL.sort (h : EncL e ok lt) (ls : List α) (g : ∀ a ∈ ls, ok a) : ∃ zs : List α, sortD (ls.map e) = zs.map e ∧ zs.Perm ls ∧ zs.Pairwise fun a b => lt b a = false := by
  have key : sortD (ls.map e) = (ls.mergeSort fun a b => PySem.W.dataLe false D.py (e a) (e b)).map e := by
    unfold sortD
    exact (List.map_mergeSort (r := fun a b => PySem.W.dataLe false D.py (e a) (e b)) (s := PySem.W.dataLe false D.py) (f := e) fun a _ b _ => rfl).symm
  have hp := List.mergeSort_perm ls (fun a b => PySem.W.dataLe false D.py (e a) (e b))
  refine ⟨_, key, hp, ?_⟩
  have hs := sortD_sorted (ls.map e)
  rw [key, List.pairwise_map] at hs
  refine List.Pairwise.imp_of_mem (fun {a b} ha hb q => ?_) hs
  rw [← h.ltv _ _ (g _ (hp.mem_iff.mp hb)) (g _ (hp.mem_iff.mp ha))]
  exact q
theorem okSort_of (k : Enc n e ok) (hn : n ≤ 64) (h : EncL e ok lt) (ls : List α) (g : ∀ a ∈ ls, ok a) (hs : PySem.W.Sortable ((ls.map e).map D.py)) : okSort (ls.map e) := by
  refine ⟨?_, hs, ?_⟩
  · intro d hd d' hd'
    simp only [List.map_map, List.mem_map, Function.comp] at hd hd'
    obtain ⟨x, hx, rfl⟩ := hd
    obtain ⟨y, hy, rfl⟩ := hd'
    exact h.alk _ _ (g x hx) (g y hy)
  · intro d hd
    obtain ⟨x, hx, rfl⟩ := List.mem_map.mp hd
    exact ⟨k.can x (g x hx), Nat.le_trans (k.dep x (g x hx)) hn⟩
theorem sortable_tup {ls : List α} (h : ∀ a ∈ ls, ∃ x r, e a = .tup (x :: r)) : PySem.W.Sortable ((ls.map e).map D.py) := .inl fun d hd => by
  simp only [List.map_map, List.mem_map, Function.comp] at hd
  obtain ⟨a, ha, rfl⟩ := hd
  obtain ⟨x, r, q⟩ := h a ha
  exact ⟨x.py, D.pys r, by rw [q]; simp [D.py, D.pys]⟩
theorem sortable_int {ls : List Int} : PySem.W.Sortable ((ls.map D.int).map D.py) := .inr fun d hd => by
  simp only [List.map_map, List.mem_map, Function.comp] at hd
  obtain ⟨a, ha, rfl⟩ := hd
  exact ⟨by simp [D.py], fun xs => by simp [D.py]⟩
end
end DL

namespace DL
open PySem PySem.Spec L2
/-! ### parts of lists -/
section
variable {α β : Type} {xs : List α} {k : Nat}
theorem cut_to : cutG xs none (some (k : Int)) = xs.take k := by
  unfold cutG
  rw [HT.sIx_nat, HT.sIx_none]
  simp
theorem cut_from : cutG xs (some (k : Int)) none = xs.drop k := by
  unfold cutG
  rw [HT.sIx_nat, HT.sIx_none]
  by_cases h : k ≤ xs.length
  · rw [Nat.min_eq_left h]
    exact List.take_of_length_le (by simp)
  · have e : xs.drop k = [] := List.drop_eq_nil_of_le (by omega)
    rw [e, Nat.min_eq_right (by omega)]
    simp
theorem cut_fromto {i j : Nat} : cutG xs (some (i : Int)) (some (j : Int)) = (xs.take j).drop i := by
  unfold cutG
  rw [HT.sIx_nat, HT.sIx_nat]
  by_cases h : i ≤ xs.length
  · rw [Nat.min_eq_left h, List.drop_take]
    by_cases h2 : j ≤ xs.length
    · rw [Nat.min_eq_left h2]
    · rw [Nat.min_eq_right (by omega), List.take_of_length_le (by simp), List.take_of_length_le (by simp; omega)]
  · rw [Nat.min_eq_right (by omega : xs.length ≤ i), List.drop_length, List.drop_eq_nil_of_le (by simp; omega)]
    simp
theorem cut_last : cutG xs none (some (-1)) = xs.dropLast := by
  unfold cutG
  have e : HT.sIx xs.length xs.length (some (-1)) = xs.length - 1 := by
    show (if ((-1 : Int) < 0) then ((-1 : Int) + (xs.length : Int)).toNat else min (-1 : Int).toNat xs.length) = _
    rw [if_pos (by decide)]
    omega
  rw [e, HT.sIx_none, List.dropLast_eq_take]
  simp
theorem cut_map (f : α → β) {lo hi : Option Int} : cutG (xs.map f) lo hi = (cutG xs lo hi).map f := by
  unfold cutG
  rw [List.length_map, List.map_take, List.map_drop]
theorem cut_from1 : cutG xs (some 1) none = xs.drop 1 := cut_from (k := 1)
theorem zip_map (f : α → D) (g : β → D) (ys : List β) : zipD (xs.map f) (ys.map g) = (xs.zip ys).map fun p => .tup [f p.1, g p.2] := by
  unfold zipD
  rw [List.zip_map]
  simp [Function.comp_def]
theorem atI_last {x : α} (h : xs.getLast? = some x) : atI xs (-1) = some x := by
  have hl : 0 < xs.length := by
    cases xs with
    | nil => simp at h
    | cons a r => simp
  unfold atI ixN
  rw [if_neg (by decide), if_pos (by omega)]
  rw [List.getLast?_eq_getElem?] at h
  have : ((-1 : Int) + (xs.length : Int)).toNat = xs.length - 1 := by omega
  simp only [Option.bind_some]
  rw [this]
  exact h
end
theorem ix0 {α : Type} {a : α} {l : List α} : atI (a :: l) 0 = some a := atI_nat (k := 0) rfl
theorem ix1 {α : Type} {a b : α} {l : List α} : atI (a :: b :: l) 1 = some b := atI_nat (k := 1) rfl
theorem atI_map {α : Type} {l : List α} {f : α → D} {k : Int} (d : α) (h0 : 0 ≤ k) (h1 : k < l.length) : atI (l.map f) k = some (f (l.getD k.toNat d)) := by
  have hk : k.toNat < l.length := by omega
  have e : atI (l.map f) ((k.toNat : Nat) : Int) = some (f (l.getD k.toNat d)) := atI_nat (by rw [List.getElem?_map, List.getElem?_eq_getElem hk]; simp [List.getD, hk])
  rwa [Int.toNat_of_nonneg h0] at e
/-- the slot of a loop's name ahead of the turn i -/
def kS : Nat → Slot
  | 0 => .un
  | i + 1 => .v (.fz (.int (0 + (i : Int))))
theorem kS_pin : ∀ {i : Nat}, (kS i).pinned = false
  | 0 => rfl
  | _ + 1 => rfl
/-! ### range(a, b, c) -/
def int3 (x : List D) (k : Int → Int → Int → Prop) (l : Lock k) : Prop := match x with
  | [.int a, .int b, .int c] => k a b c
  | _ => False
theorem int3_3 {a b c : Int} {k : Int → Int → Int → Prop} {l} : int3 [.int a, .int b, .int c] k l = k a b c := rfl
theorem s_rng3 {ms : TDs} {s : DSt} {R} : mRng3 ms s R = ms s fun ws s1 => wD (resL s1 ws) (fun ds => int3 ds (fun i j c => ∃ n, RgC i j c n ∧ R (rngC i c n) s1) .mk) .mk := by
  have : ∀ (o : Option (List D)) (k : Int → Int → Int → Nat → Prop), (∃ (i j c : Int) (n : Nat), o = some [.int i, .int j, .int c] ∧ k i j c n) = wD o (fun ds => int3 ds (fun i j c => ∃ n, k i j c n) .mk) .mk := by
    intro o k
    refine propext ⟨?_, fun h => ?_⟩
    · rintro ⟨i, j, c, n, rfl, h⟩
      exact ⟨n, h⟩
    · cases o with
      | none => exact h.elim
      | some ds =>
        have h : int3 ds (fun i j c => ∃ n, k i j c n) .mk := h
        unfold int3 at h
        split at h
        · obtain ⟨n, h⟩ := h
          exact ⟨_, _, _, n, rfl, h⟩
        · exact h.elim
  unfold mRng3
  simp only [this]
theorem for_rngC {D0 : DEnds} {a : TSd} {g : TGd} {s : DSt} {lo c : Int} {n : Nat} (P : Nat → DSt → Prop) (h0 : P 0 s) (hs : ∀ (i : Nat) s, i < n → P i s → ∀ (N B : DSt → Prop) (R : M → DSt → Prop), (∀ s, P (i + 1) s → N s) → B = D0.nx → R = D0.rt → g (.fz (.int (lo + (i : Nat) * c))) s fun s2 => a ⟨N, R, B, N⟩ s2)
    (hd : ∀ s, P n s → D0.nx s) : FoR (rngC lo c n) g a D0 s := by
  have hl : (rngC lo c n).length = n := by simp [rngC]
  refine for_of P h0 (fun i d s hd hp => ?_) fun s h => hd s (by simpa [hl] using h)
  unfold rngC at hd
  obtain ⟨j, hj, rfl⟩ := map_get hd
  obtain ⟨h1, h2⟩ := List.getElem?_eq_some_iff.mp hj
  simp at h1 h2
  subst h2
  exact hs i s h1 hp
/-- one < other for each two neighbours -/
theorem asc_iff : ∀ {ns : List Int}, ((ns.dropLast.zip (ns.drop 1)).all fun p => decide (p.1 < p.2)) = true ↔ ns.Pairwise (· < ·)
  | [] => by simp
  | [x] => by simp
  | x :: y :: r => by
    have ih := asc_iff (ns := y :: r)
    simp only [List.dropLast_cons₂, List.drop_succ_cons, List.drop_zero, List.zip_cons_cons, List.all_cons, Bool.and_eq_true, decide_eq_true_eq] at ih ⊢
    rw [List.pairwise_cons]
    constructor
    · rintro ⟨h1, h2⟩
      have h3 := ih.mp h2
      refine ⟨fun z hz => ?_, h3⟩
      rcases List.mem_cons.mp hz with rfl | hz
      · exact h1
      · exact Int.lt_trans h1 ((List.pairwise_cons.mp h3).1 z hz)
    · rintro ⟨h1, h2⟩
      exact ⟨h1 y (by simp), ih.mpr h2⟩
/-- an ascending row lies between its ends -/
theorem asc_ends {ns : List Int} {a b : Int} (h : ns.Pairwise (· < ·)) (ha : ns.head? = some a) (hb : ns.getLast? = some b) : ∀ n ∈ ns, a ≤ n ∧ n ≤ b := by
  intro n hn
  obtain ⟨k, hk, rfl⟩ := List.getElem_of_mem hn
  have h0 : 0 < ns.length := by omega
  have ea : ns[0] = a := by
    rw [List.head?_eq_getElem?, List.getElem?_eq_getElem h0] at ha; exact Option.some.inj ha
  have eb : ns[ns.length - 1] = b := by
    rw [List.getLast?_eq_getElem?, List.getElem?_eq_getElem (by omega)] at hb; exact Option.some.inj hb
  have pw := List.pairwise_iff_getElem.mp h
  constructor
  · rcases Nat.eq_zero_or_pos k with q | q
    · subst q; omega
    · have := pw 0 k h0 hk q; omega
  · rcases Nat.lt_or_ge k (ns.length - 1) with q | q
    · have := pw k (ns.length - 1) hk (by omega) q; omega
    · have : k = ns.length - 1 := by omega
      subst this; omega
end DL

namespace K73
/-! plain law of k73 -/
def okR (p : Int) (ns : List Int) : Prop := (1 ≤ p ∧ p ≤ 60) ∧ (1 ≤ ns.length ∧ ns.length ≤ 8) ∧ ns.Pairwise (· < ·) ∧ ∀ n ∈ ns, 0 ≤ n ∧ n < p
instance (p : Int) (ns : List Int) : Decidable (okR p ns) := by unfold okR; infer_instance
/-- reads of a period, as the law's own look needs them -/
def okN (p : Int) (ns : List Int) : Prop := 1 ≤ p ∧ ns ≠ [] ∧ ∀ n ∈ ns, 0 ≤ n ∧ n < p
theorem okR.n {p : Int} {ns : List Int} (h : okR p ns) : okN p ns := ⟨h.1.1, (fun e => by have := h.2.1.1; rw [e] at this; simp at this), h.2.2.2⟩
def nxA (p : Int) (ns : List Int) : Nat → Int → Int
  | 0, m => m
  | k + 1, m => if ns.contains (m % p) then m else nxA p ns k (m + 1)
def nx (p : Int) (ns : List Int) (m : Int) : Int := nxA p ns p.toNat m
def nxt (p : Int) (ns : List Int) (m t : Int) : Prop := m ≤ t ∧ t % p ∈ ns ∧ ∀ u, m ≤ u → u < t → u % p ∉ ns
theorem nxt.uniq {p m t t' : Int} {ns : List Int} (h : nxt p ns m t) (h' : nxt p ns m t') : t = t' := by
  rcases Int.lt_trichotomy t t' with q | q | q
  · exact absurd h.2.1 (h'.2.2 t h.1 q)
  · exact q
  · exact absurd h'.2.1 (h.2.2 t' h'.1 q)
theorem nxA_spec {p : Int} {ns : List Int} : ∀ {k : Nat} {m : Int}, (∃ u, m ≤ u ∧ u < m + k ∧ u % p ∈ ns) → nxt p ns m (nxA p ns k m)
  | 0, m, ⟨u, h1, h2, _⟩ => by omega
  | k + 1, m, ⟨u, h1, h2, h3⟩ => by
    unfold nxA
    by_cases h : m % p ∈ ns
    · rw [if_pos (by simpa using h)]
      exact ⟨Int.le_refl _, h, fun u a b => by omega⟩
    · rw [if_neg (by simpa using h)]
      have hu : u ≠ m := fun e => h (e ▸ h3)
      obtain ⟨a, b, c⟩ := nxA_spec (k := k) (m := m + 1) ⟨u, by omega, by omega, h3⟩
      refine ⟨by omega, b, fun v hv1 hv2 => ?_⟩
      by_cases e : v = m
      · exact e ▸ h
      · exact c v (by omega) hv2
theorem nx_spec {p m : Int} {ns : List Int} (h : okN p ns) : nxt p ns m (nx p ns m) := by
  obtain ⟨hp, hne, hb⟩ := h
  obtain ⟨n, hn⟩ := List.exists_mem_of_ne_nil _ hne
  obtain ⟨n0, n1⟩ := hb n hn
  refine nxA_spec ?_
  -- the first place from m on with the remainder n
  refine ⟨m + (n - m) % p, ?_, ?_, ?_⟩
  · have := Int.emod_nonneg (n - m) (show p ≠ 0 by omega); omega
  · have := Int.emod_lt_of_pos (n - m) (show 0 < p by omega); omega
  · have e : (m + (n - m) % p) % p = n := by
      rw [Int.add_emod_emod, show m + (n - m) = n by omega]
      exact Int.emod_eq_of_lt n0 n1
    rw [e]; exact hn
theorem nx_lt {p m : Int} {ns : List Int} (h : okN p ns) : nx p ns m < m + p := by
  obtain ⟨hp, hne, hb⟩ := h
  obtain ⟨n, hn⟩ := List.exists_mem_of_ne_nil _ hne
  obtain ⟨n0, n1⟩ := hb n hn
  have sp := nx_spec (m := m) ⟨hp, hne, hb⟩
  have h2 := Int.emod_lt_of_pos (n - m) (show 0 < p by omega)
  have h3 := Int.emod_nonneg (n - m) (show p ≠ 0 by omega)
  rcases Int.lt_or_le (nx p ns m) (m + p) with q | q
  · exact q
  · refine absurd ?_ (sp.2.2 (m + (n - m) % p) (by omega) (by omega))
    have e : (m + (n - m) % p) % p = n := by
      rw [Int.add_emod_emod, show m + (n - m) = n by omega]
      exact Int.emod_eq_of_lt n0 n1
    rw [e]; exact hn
theorem nx_le {p m : Int} {ns : List Int} (h : okN p ns) : m ≤ nx p ns m := (nx_spec h).1
theorem nx_shift {p m : Int} {ns : List Int} (h : okN p ns) : nx p ns (m - p) = nx p ns m - p := by
  refine nxt.uniq (nx_spec h) ?_
  obtain ⟨a, b, c⟩ := nx_spec (m := m) h
  refine ⟨by omega, by rw [Int.sub_emod_right]; exact b, fun u hu1 hu2 hu3 => c (u + p) (by omega) (by omega) (by rw [Int.add_emod_right]; exact hu3)⟩
/-- what next_read finds in the turn i -/
theorem nxt_turn0 {p m r : Int} {ns : List Int} {j : Nat} (ok : okR p ns) (e : ns[j]? = some r) (hge : m ≤ m / p * p + r) (hlt : ∀ q ∈ ns.take j, m / p * p + q < m) : nxt p ns m (m / p * p + r) := by
  obtain ⟨⟨p1, _⟩, _, asc, hb⟩ := ok
  have hr := hb r (List.mem_of_getElem? e)
  refine ⟨hge, ?_, fun u hu1 hu2 hu3 => ?_⟩
  · rw [Int.add_comm, Int.add_mul_emod_self_right, Int.emod_eq_of_lt hr.1 hr.2]; exact List.mem_of_getElem? e
  · have h0 := Int.emod_add_mul_ediv m p
    have h1 := Int.emod_nonneg m (show p ≠ 0 by omega)
    have h2 := Int.emod_lt_of_pos m (show 0 < p by omega)
    have hu := Int.emod_add_mul_ediv u p
    have hq := hb _ hu3
    rw [Int.mul_comm] at h0 hu
    have d1 : m / p ≤ u / p := Int.ediv_le_ediv (by omega) hu1
    have d2 : u / p < m / p + 1 := by
      rcases Int.lt_or_le (u / p) (m / p + 1) with q | q
      · exact q
      · have := Int.mul_le_mul_of_nonneg_right q (show 0 ≤ p by omega)
        rw [Int.add_mul, Int.one_mul] at this
        omega
    have eq : u / p = m / p := by omega
    have hu4 : u = m / p * p + u % p := by rw [eq] at hu; omega
    have hlr : u % p < r := by omega
    -- it stands ahead of r
    obtain ⟨k, hk, ek⟩ := List.getElem_of_mem hu3
    obtain ⟨hj, ej⟩ := List.getElem?_eq_some_iff.mp e
    have hkj : k < j := by
      rcases Nat.lt_trichotomy k j with q | q | q
      · exact q
      · subst q; rw [ej] at ek; omega
      · have := List.pairwise_iff_getElem.mp asc j k hj hk q
        rw [ej, ek] at this; omega
    have := hlt (u % p) (List.mem_take_iff_getElem.mpr ⟨k, by omega, by simpa using ek⟩)
    omega
theorem nxt_turn1 {p m r : Int} {ns : List Int} (ok : okR p ns) (e : ns[0]? = some r) (hlt : ∀ q ∈ ns, m / p * p + q < m) : nxt p ns m ((m / p + 1) * p + r) := by
  obtain ⟨⟨p1, _⟩, _, asc, hb⟩ := ok
  have hr := hb r (List.mem_of_getElem? e)
  have h0 := Int.emod_add_mul_ediv m p
  have h1 := Int.emod_nonneg m (show p ≠ 0 by omega)
  have h2 := Int.emod_lt_of_pos m (show 0 < p by omega)
  have em : (m / p + 1) * p = m / p * p + p := by rw [Int.add_mul, Int.one_mul]
  rw [Int.mul_comm] at h0
  refine ⟨by omega, ?_, fun u hu1 hu2 hu3 => ?_⟩
  · rw [Int.add_comm, Int.add_mul_emod_self_right, Int.emod_eq_of_lt hr.1 hr.2]; exact List.mem_of_getElem? e
  · have hu := Int.emod_add_mul_ediv u p
    rw [Int.mul_comm] at hu
    have hq := hb _ hu3
    -- r is the least
    have hmin : r ≤ u % p := by
      obtain ⟨k, hk, ek⟩ := List.getElem_of_mem hu3
      obtain ⟨hj, ej⟩ := List.getElem?_eq_some_iff.mp e
      rcases Nat.eq_zero_or_pos k with q | q
      · subst q; rw [ej] at ek; omega
      · have := List.pairwise_iff_getElem.mp asc 0 k hj hk q
        rw [ej, ek] at this; omega
    have hl := hlt _ hu3
    have d1 : m / p ≤ u / p := Int.ediv_le_ediv (by omega) hu1
    have d2 : u / p < m / p + 1 := by
      rcases Int.lt_or_le (u / p) (m / p + 1) with q | q
      · exact q
      · have := Int.mul_le_mul_of_nonneg_right q (show 0 ≤ p by omega)
        omega
    have d3 : u / p = m / p := by omega
    rw [d3] at hu
    omega
/-! longest unseen time -/
def lmax : List Int → Int
  | [] => 0
  | [x] => x
  | x :: xs => max x (lmax xs)
theorem lmax_mem : ∀ {l : List Int}, l ≠ [] → lmax l ∈ l
  | [], h => absurd rfl h
  | [x], _ => by simp [lmax]
  | x :: y :: r, _ => by
    have ih := lmax_mem (l := y :: r) (by simp)
    simp only [lmax]
    rcases Int.le_total x (lmax (y :: r)) with h | h
    · rw [Int.max_eq_right h]; exact List.mem_cons_of_mem _ ih
    · rw [Int.max_eq_left h]; exact List.mem_cons_self
theorem lmax_le : ∀ {l : List Int} {x : Int}, x ∈ l → x ≤ lmax l
  | [y], x, h => by simp at h; simp [lmax, h]
  | y :: z :: r, x, h => by
    simp only [lmax]
    rcases List.mem_cons.mp h with rfl | h
    · exact Int.le_max_left _ _
    · exact Int.le_trans (lmax_le h) (Int.le_max_right _ _)
def lg (p : Int) (ns : List Int) : Int := lmax ((DL.isq 0 p.toNat).map fun m => nx p ns m - m)
/-! both spoilt -/
abbrev T3 := Int × Int × Int
def bstep (f g : Int → Int) (b : T3) (x y : Int) : T3 := if min (f x) (g y) - max x y > b.1 then (min (f x) (g y) - max x y, x, y) else b
def brow (f g : Int → Int) (p : Int) (b : T3) (x : Int) : T3 := (DL.isq (x - p + 1) (2 * p - 1).toNat).foldl (fun b y => bstep f g b x y) b
def best (f g : Int → Int) (p : Int) : T3 := (DL.isq 0 p.toNat).foldl (brow f g p) (0, 0, 0)
def best3 (p : Int) (a b : List Int) : T3 := best (nx p a) (nx p b) p
/-! fewest reads -/
def lrA (p w : Int) : Nat → Int → List Int
  | 0, _ => []
  | k + 1, at' => at' :: lrA p w k (max (at' + 1) (p - k * w))
/-- rounded up -/
def cdiv (p w : Int) : Int := -((-p) / w)
def lr (p L : Int) : List Int := lrA p (L + 1) (cdiv p (L + 1)).toNat 0
theorem lrA_len {p w : Int} : ∀ {k : Nat} {a : Int}, (lrA p w k a).length = k
  | 0, _ => rfl
  | k + 1, a => by simp [lrA, lrA_len]
/-! subsets -/
def subs : List Int → List (List Int)
  | [] => [[]]
  | x :: xs => subs xs
def subsF (xs : List Int) : List (List Int) := xs.foldl (fun f x => f ++ f.map (· ++ [x])) [[]]
/-- as the rows are ordered -/
def leR (a b : List Int) : Bool := decide (a.length < b.length) || (a.length == b.length && decide (a ≤ b))
def chk (p : Nat) : Bool := (subsF (DL.isq 0 p)).all fun y => y.isEmpty || let g := lg p y; (List.range (p + 2)).all fun L => !decide (g ≤ (L : Int)) || leR (lr p L) y
theorem isq_cons (a : Int) (n : Nat) : DL.isq a (n + 1) = a :: DL.isq (a + 1) n := by
  unfold DL.isq
  rw [List.range_succ_eq_map, List.map_cons, List.map_map]
  refine congr (congrArg _ (by simp)) (List.map_congr_left fun i _ => ?_)
  simp only [Function.comp]
  omega
theorem bstep_ge {f g : Int → Int} {b : T3} {x y : Int} : b.1 ≤ (bstep f g b x y).1 := by
  unfold bstep
  split
  · simp only; omega
  · exact Int.le_refl _
theorem bfold_ge {f g : Int → Int} {x : Int} : ∀ {l : List Int} {b : T3}, b.1 ≤ (l.foldl (fun b y => bstep f g b x y) b).1
  | [], b => Int.le_refl _
  | y :: l, b => Int.le_trans bstep_ge (bfold_ge (l := l))
theorem brow_ge {f g : Int → Int} {p : Int} {b : T3} {x : Int} : b.1 ≤ (brow f g p b x).1 := bfold_ge
theorem brows_ge {f g : Int → Int} {p : Int} : ∀ {l : List Int} {b : T3}, b.1 ≤ (l.foldl (brow f g p) b).1
  | [], b => Int.le_refl _
  | y :: l, b => Int.le_trans brow_ge (brows_ge (l := l))
theorem brow_eq {p : Int} {ns ns' : List Int} (ok : okN p ns) (ok' : okN p ns') {b : T3} (hb : 0 ≤ b.1) (x : Int) : (DL.isq (x - p) (2 * p).toNat).foldl (fun b y => bstep (nx p ns) (nx p ns') b x y) b = brow (nx p ns) (nx p ns') p b x := by
  have hp := ok.1
  obtain ⟨k, hk⟩ : ∃ k, (2 * p).toNat = k + 1 := ⟨(2 * p).toNat - 1, by omega⟩
  rw [hk, isq_cons, List.foldl_cons]
  have e : bstep (nx p ns) (nx p ns') b x (x - p) = b := by
    unfold bstep
    rw [nx_shift ok']
    have := nx_lt (m := x) ok'
    rw [if_neg]
    omega
  rw [e]
  unfold brow
  rw [show (2 * p - 1).toNat = k by omega]
theorem fold_take {α β : Type} {f : β → α → β} {l : List α} {i : Nat} {x : α} {b : β} (h : l[i]? = some x) : (l.take (i + 1)).foldl f b = f ((l.take i).foldl f b) x := by
  rw [List.take_succ, h, List.foldl_append]; rfl
theorem min_if (i j : Int) : (if j < i then j else i) = min i j := by omega
theorem max_if (i j : Int) : (if j > i then j else i) = max i j := by omega
/-! spread -/
def spr (p : Int) (k : Nat) : List Int := (DL.isq 0 k).map fun d => d * p / k
def stepsOf (p : Int) (k : Nat) : List Int := (List.range k).map fun i => ((spr p k ++ [p]).getD (i + 1) 0) - (spr p k).getD i 0
def chkS (p k : Nat) : Bool := (spr p k).head? == some 0 && decide (lmax (stepsOf p k) + lmax ((stepsOf p k).map fun x => -x) ≤ 1)
theorem chkS_all : ((List.range 14).all fun p => (List.range (p + 1)).all fun k => chkS (p + 1) (k + 1)) = true := by decide +kernel
/-! the fewest reads, looked at -/
def chk2 (p : Nat) : Bool := (List.range (p + 2)).all fun L => (subsF (DL.isq 0 p)).contains (lr p L) && decide (lg p (lr p L) ≤ L) && !(lr p L).isEmpty && (lr p L).length ≤ 9 && decide (cdiv p (L + 1) ≤ 9) && (((lr p L).length == 9) == decide (cdiv p (L + 1) > 8))
theorem chk_all : ((List.range 9).all fun p => chk (p + 1) && chk2 (p + 1)) = true := by decide +kernel
def chkW (w : Nat) : Bool := decide (lg w (lr w (w / 4 + 1)) ≤ w / 4 + 1) && (lr w (w / 4 + 1)).head? == some 0 && decide (cdiv w (w / 4 + 2) ≤ 8) && decide (okR w (lr w (w / 4 + 1)))
theorem chkW_all : ((List.range 60).all fun w => chkW (w + 1)) = true := by decide +kernel
end K73

namespace K73
theorem leR_antisymm {a b : List Int} (h : leR a b = true) (h' : leR b a = true) : a = b := by
  unfold leR at h h'
  simp only [Bool.or_eq_true, decide_eq_true_eq, Bool.and_eq_true, beq_iff_eq] at h h'
  have e : a.length = b.length := by rcases h with h | h <;> rcases h' with h' | h' <;> omega
  have h1 : a ≤ b := by rcases h with h | h; omega; exact h.2
  have h2 : b ≤ a := by rcases h' with h | h; omega; exact h.2
  exact List.le_antisymm h1 h2
theorem good_head {p L : Int} {zs : List (List Int)} (hp : 1 ≤ p ∧ p ≤ 9) (hL : 0 ≤ L ∧ L < p + 2) (perm : zs.Perm (subsF (DL.isq 0 p.toNat))) (pw : zs.Pairwise fun a b => leR a b = true) :
    ∃ rest, zs.filter (fun y => !y.isEmpty && decide (lg p y ≤ L)) = lr p L :: rest ∧ (lr p L).length ≤ 9 ∧ ((lr p L).length = 9 ↔ 8 < cdiv p (L + 1)) ∧ cdiv p (L + 1) ≤ 9 := by
  have ca := chk_all
  rw [List.all_eq_true] at ca
  have cp := ca (p.toNat - 1) (List.mem_range.mpr (by omega))
  have ep : p.toNat - 1 + 1 = p.toNat := by omega
  rw [ep, Bool.and_eq_true] at cp
  obtain ⟨c1, c2⟩ := cp
  have epi : ((p.toNat : Nat) : Int) = p := by omega
  have eLi : ((L.toNat : Nat) : Int) = L := by omega
  unfold chk2 at c2
  rw [List.all_eq_true] at c2
  have c2 := c2 L.toNat (List.mem_range.mpr (by omega))
  rw [epi, eLi] at c2
  simp only [Bool.and_eq_true, decide_eq_true_eq, Bool.not_eq_true', beq_iff_eq] at c2
  obtain ⟨⟨⟨⟨⟨m1, m2⟩, m3⟩, m4⟩, m5⟩, m6⟩ := c2
  have hmem : lr p L ∈ zs.filter (fun y => !y.isEmpty && decide (lg p y ≤ L)) := by
    rw [List.mem_filter]
    refine ⟨perm.mem_iff.mpr (by simpa using m1), ?_⟩
    simp [m3, m2]
  have pwf := pw.sublist (List.filter_sublist (p := fun y => !y.isEmpty && decide (lg p y ≤ L)) (l := zs))
  cases hG : zs.filter (fun y => !y.isEmpty && decide (lg p y ≤ L)) with
  | nil => rw [hG] at hmem; simp at hmem
  | cons g rest =>
    rw [hG] at hmem pwf
    have hg : g ∈ zs.filter (fun y => !y.isEmpty && decide (lg p y ≤ L)) := by rw [hG]; simp
    rw [List.mem_filter] at hg
    obtain ⟨g1, g2⟩ := hg
    simp only [Bool.and_eq_true, Bool.not_eq_true', decide_eq_true_eq] at g2
    have e : lr p L = g := by
      rcases List.mem_cons.mp hmem with e | e
      · exact e
      · have a1 := (List.pairwise_cons.mp pwf).1 _ e
        unfold chk at c1
        rw [List.all_eq_true] at c1
        have a2 := c1 g (perm.mem_iff.mp g1)
        rw [epi] at a2
        rw [Bool.or_eq_true] at a2
        rcases a2 with a2 | a2
        · rw [g2.1] at a2; cases a2
        · rw [List.all_eq_true] at a2
          have a3 := a2 L.toNat (List.mem_range.mpr (by omega))
          rw [eLi, Bool.or_eq_true] at a3
          rcases a3 with a3 | a3
          · simp [g2.2] at a3
          · exact leR_antisymm a3 a1
    refine ⟨rest, by rw [e], by simpa using m4, ?_, m5⟩
    rw [← decide_eq_true_eq (p := 8 < cdiv p (L + 1)), ← m6]
    simp
theorem wide_ok {w : Int} (hw : 1 ≤ w ∧ w ≤ 60) : lg w (lr w (w / 4 + 1)) ≤ w / 4 + 1 ∧ (∃ r, lr w (w / 4 + 1) = 0 :: r) ∧ cdiv w (w / 4 + 2) ≤ 8 ∧ okR w (lr w (w / 4 + 1)) := by
  have ca := chkW_all
  rw [List.all_eq_true] at ca
  have cp := ca (w.toNat - 1) (List.mem_range.mpr (by omega))
  rw [show w.toNat - 1 + 1 = w.toNat by omega] at cp
  unfold chkW at cp
  rw [show ((w.toNat : Nat) : Int) = w by omega] at cp
  simp only [Bool.and_eq_true, decide_eq_true_eq, beq_iff_eq] at cp
  obtain ⟨⟨⟨a, b⟩, c⟩, d⟩ := cp
  refine ⟨a, ?_, c, d⟩
  cases h : lr w (w / 4 + 1) with
  | nil => rw [h] at b; simp at b
  | cons x r => rw [h] at b; simp at b; exact ⟨r, by rw [b]⟩
theorem spread_ok {p k : Int} (hp : 1 ≤ p ∧ p ≤ 14) (hk : 1 ≤ k ∧ k ≤ p) : (∃ r, spr p k.toNat = 0 :: r) ∧ lmax (stepsOf p k.toNat) + lmax ((stepsOf p k.toNat).map fun x => -x) ≤ 1 := by
  have ca := chkS_all
  rw [List.all_eq_true] at ca
  have cp := ca (p.toNat - 1) (List.mem_range.mpr (by omega))
  rw [List.all_eq_true] at cp
  have cp := cp (k.toNat - 1) (List.mem_range.mpr (by omega))
  rw [show p.toNat - 1 + 1 = p.toNat by omega, show k.toNat - 1 + 1 = k.toNat by omega] at cp
  unfold chkS at cp
  rw [show ((p.toNat : Nat) : Int) = p by omega] at cp
  simp only [Bool.and_eq_true, decide_eq_true_eq, beq_iff_eq] at cp
  refine ⟨?_, cp.2⟩
  cases h : spr p k.toNat with
  | nil => rw [h] at cp; simp at cp
  | cons x r => rw [h] at cp; simp at cp; exact ⟨r, by rw [cp.1]⟩
theorem lmin_mem {l : List Int} (h : l ≠ []) : -(lmax (l.map fun x => -x)) ∈ l := by
  have := lmax_mem (l := l.map fun x => -x) (by simpa using h)
  obtain ⟨x, hx, e⟩ := List.mem_map.mp this
  rw [← e]
  simpa using hx
theorem lmin_le {l : List Int} {x : Int} (h : x ∈ l) : -(lmax (l.map fun x => -x)) ≤ x := by
  have := lmax_le (l := l.map fun x => -x) (x := -x) (List.mem_map.mpr ⟨x, h, rfl⟩)
  omega
theorem spr_len {p : Int} {k : Nat} : (spr p k).length = k := by simp [spr, DL.isq]
end K73

namespace K73
open PySem PySem.Spec L2 DL
def top (i : Nat) : Stmt := PySem.Challenge.pw_wreckhouse_k73_whole_reads_through.main.body.getD i (.Pass ⟨0, 0, 0, 0⟩)
abbrev s_check_reads : Stmt := top 6
abbrev N_check_reads : List Str := ["period", "reads", "one", "other"]
abbrev s_next_read : Stmt := top 7
abbrev N_next_read : List Str := ["period", "reads", "moment", "rounds", "turn", "read"]
abbrev s_longest_unseen : Stmt := top 8
abbrev N_longest_unseen : List Str := ["period", "reads", "moment"]
abbrev s_both_spoilt : Stmt := top 9
abbrev N_both_spoilt : List Str := ["period", "first", "second", "best", "one", "other", "begin", "end"]
abbrev s_least_reads : Stmt := top 10
abbrev N_least_reads : List Str := ["period", "most", "many", "found", "at", "left"]
abbrev s_staggered : Stmt := top 11
abbrev N_staggered : List Str := ["period", "disks", "disk"]
abbrev s_takes_reads : Stmt := top 12
abbrev N_takes_reads : List Str := ["period", "reads", "most"]
abbrev s__law_tape : Stmt := top 14
abbrev N__law_tape : List Str := ["script", "cells", "seed", "cell"]
abbrev s__law_take : Stmt := top 15
abbrev N__law_take : List Str := ["tape", "many", "mixed", "drawn"]
abbrev s__law_subsets : Stmt := top 16
abbrev N__law_subsets : List Str := ["things", "found", "thing", "size", "row"]
abbrev s__law_refused : Stmt := top 17
abbrev N__law_refused : List Str := ["call"]
abbrev s__law_next : Stmt := top 18
abbrev N__law_next : List Str := ["period", "reads", "moment", "now"]
abbrev s__law_longest : Stmt := top 19
abbrev N__law_longest : List Str := ["period", "reads", "moment"]
abbrev s_law : Stmt := top 20
abbrev N_law : List Str := ["script", "tape", "period", "rows", "k", "longest", "limit", "best", "one", "every", "good", "wide", "told", "disks", "spread", "steps", "bad", "reads", "moment", "other", "time", "row"]
structure Txt (K : PySem.W.Frag) (mg : Str → Option Value) (C_InvalidPlan : Addr) : Prop where
  x_InvalidPlan : ExcC K mg "InvalidPlan" C_InvalidPlan
  n_abs : mg "abs" = none
  n_all : mg "all" = none
  n_int : mg "int" = none
  n_len : mg "len" = none
  n_list : mg "list" = none
  n_max : mg "max" = none
  n_min : mg "min" = none
  n_range : mg "range" = none
  n_sorted : mg "sorted" = none
  n_tuple : mg "tuple" = none
  n_zip : mg "zip" = none
  c_MOST_PERIOD : ∃ t, mg "MOST_PERIOD" = some (.int 60 t)
  c_MOST_READS : ∃ t, mg "MOST_READS" = some (.int 8 t)
section
variable {P : Program} {w : World} {K : PySem.W.Frag} {mg : Str → Option Value} {base : Heap} {TB : List (Addr × Str)} {C_InvalidPlan : Addr}
/-! ### _law_tape, _law_take -/
/-- the tape: its cells, where it stands, what is left of a cell, the seed, the salt -/
def tapeD (cells : List Int) (at' left seed salt : Int) : List (Key × D) := [(.inr "cells", .lst (cells.map .int)), (.inr "at", .int at'), (.inr "left", .int left), (.inr "seed", .int seed), (.inr "salt", .int salt)]
/-- a tape as the law holds it -/
def Tape (m : M) : Prop := ∃ (cells : List Int) (at' left seed salt : Int), m = .md (tapeD cells at' left seed salt) ∧ (∀ c ∈ cells, 0 ≤ c) ∧ 0 ≤ at' ∧ 0 ≤ left ∧ 0 ≤ seed ∧ seed < 2147483647 ∧ 0 ≤ salt
section
variable {c : List Int} {a l s z : Int} {d : D}
theorem td_cells : valD (tapeD c a l s z) (.inr "cells") = some (.lst (c.map .int)) := rfl
theorem td_at : valD (tapeD c a l s z) (.inr "at") = some (.int a) := rfl
theorem td_left : valD (tapeD c a l s z) (.inr "left") = some (.int l) := rfl
theorem td_seed : valD (tapeD c a l s z) (.inr "seed") = some (.int s) := rfl
theorem td_salt : valD (tapeD c a l s z) (.inr "salt") = some (.int z) := rfl
theorem tp_at {x : Int} : putD (tapeD c a l s z) (.inr "at") (.int x) = tapeD c x l s z := rfl
theorem tp_left {x : Int} : putD (tapeD c a l s z) (.inr "left") (.int x) = tapeD c a x s z := rfl
theorem tp_salt {x : Int} : putD (tapeD c a l s z) (.inr "salt") (.int x) = tapeD c a l s x := rfl
theorem td_len : (tapeD c a l s z).length = 5 := rfl
end
def c__law_tape : CT
  | [.fz (.scr ns)], R, _ => ns.length ≤ 63 ∧ ∀ m, Tape m → R m []
  | _, _, _ => False
theorem sc__law_tape : FnScope N__law_tape ["script"] (defScope s__law_tape) := ⟨rfl, rfl, rfl, by decide +kernel, rfl, by decide +kernel, by decide +kernel⟩
theorem ok__law_tape (T : Txt K mg C_InvalidPlan) (F : TopFn K mg "_law_tape" s__law_tape ["script"]) : FnAt P w K mg base TB 1 "_law_tape" ["script"] false c__law_tape := by
  have nd := sc__law_tape.nd
  refine fnAt F sc__law_tape (fun ms R X h => by unfold c__law_tape at h; split at h <;> first | rfl | exact h.elim) (fun h => by cases h) fun f cdv A outer s H E x0 Xd hr => ?_
  refine ⟨_, _, (dss_cons (ds_setLc (i := 1) (own := [("cell", 3)]) rfl nd rfl rfl (sw_true rfl rfl rfl (by decide +kernel)) (di_any rfl (dv 0)) (blkOk_by (N := N__law_tape) (sc := defScope s__law_tape) (by decide +kernel)) (GOnly.name (by decide)) GMono.name (fun _ _ _ _ _ => (dg_name (i := 3) nd rfl (by first | exact Or.inl rfl | exact Or.inr rfl))) (fun _ _ _ _ _ => dts_nil) (fun _ _ _ _ _ => (de_callB call_abs cd_abs (by rfl) T.n_abs bo_abs (da_cons (de_callTy call_intA cd_int (by rfl) T.n_int bo_int (da_cons (dv 3) da_nil)) da_nil))))
      (dss_cons (ds_set (i := 2) nd rfl (by first | exact Or.inl rfl | exact Or.inr rfl) de_int)
      (dss_cons (ds_for passD rfl (di_any rfl (dv 1)) (dg_name (i := 3) nd rfl (by first | exact Or.inl rfl | exact Or.inr rfl))
      (dss_one (ds_set (i := 2) nd rfl (by first | exact Or.inl rfl | exact Or.inr rfl) (de_op op_modN od_mod (de_callTy call_intA cd_int (by rfl) T.n_int bo_int (da_cons (de_op (op_addA rfl) od_add (de_op (op_mulA rfl) od_mul (dv 2) de_int) (dv 3)) da_nil)) de_int))))
      (dss_one (ds_ret (de_disp (dps_cons de_str (dv 1) (dps_cons de_str de_int (dps_cons de_str de_int (dps_cons de_str (dv 2) (dps_cons de_str de_int dps_nil))))))))))), ?_⟩
  intro ms Rd h
  unfold c__law_tape at h
  split at h <;> first | exact (show False from h).elim | skip
  rename_i ns
  obtain ⟨h63, q⟩ := h
  simp -dsimp only [↓s_var, ↓s_c, ↓s_op, ↓s_test, ↓s_truth, ↓s_chain, ↓s_and, ↓s_or, ↓s_not, ↓s_andV, ↓s_orV, ↓s_notV, ↓s_if, ↓s_un, ↓s_nil, ↓s_cons, ↓s_cb, ↓s_call, ↓s_tup, ↓s_lst, ↓s_nopart, ↓s_part, ↓s_sl, ↓s_app, ↓s_items, ↓s_rng1, ↓s_rng2, ↓s_rng3, ↓s_next, ↓s_seq, ↓s_break, ↓s_cont, ↓s_drop, ↓s_ret, ↓s_retN, ↓s_ifS, ↓s_asg, ↓s_gNm, ↓s_gTup, ↓s_gNil, ↓s_gCons, ↓s_aug, ↓s_par, ↓s_for, ↓s_while, ↓s_lc, ↓s_lc2, ↓s_yes, ↓s_tvs0, ↓s_tvs1, ↓s_tvV, ↓s_tvS, ↓s_rvV, ↓s_rvS, ↓s_enum, ↓s_zip, ↓s_callIO, ↓fin_t, pins_nil, pins_p, pins_v, pins_un, lent1, slotL_s, ↓putB_1, ↓s_setI, ↓s_dput, ↓s_daug, ↓s_dnew, ↓s_disp, ↓s_flat0, ↓s_flat1, ↓s_never, ↓s_raise, ↓s_neverE, mkD, D.key, Option.map_some, dgetM, ↓br_t, ↓br_f, ↓s_fin0, ↓s_ref, ↓s_tupRg, ↓s_lstRg, ↓s_rg1, ↓s_rg2, hide, hideS, s_resV, s_resS, s_resL0, s_resL1, s_slotM, s_setM, s_frz, s_frzL, wD_some, got_v, got_p, ↓gset_un, ↓gset_v, vslot_v, fslot_v, asB_b, asI_i, asT_t, asL_l, hasL_l, one_1, two_2, int1_1, int2_2, int3_3, ix0, ix1, Slot.fr?, Slot.m?, Slot.put, opz_f1, o_iop, b_lt, o_addI, o_addS, o_addT, o_addL, o_mulI, o_mulT, o_mulL, o_ixL, o_ixT, o_ixW, o_ixC, o_ixS, o_slL, o_slT, o_slS, o_lenL, o_lenT, o_lenW, o_lenC, o_lenD, o_lenS, o_abs, o_intI, o_intB, o_str, o_list, o_tupL, o_tupT, o_isN, o_isNotN, o_isTy, o_neg, t_non, t_bl, t_int, t_str, t_lst, t_tup, t_wtu, t_dic, i_lst, i_tup, i_wtu, i_scr, i_str, q_lst, q_scr, q_tup, q_wtu, o_sort, o_inL, o_inT, o_eqI, o_neI, o_all, o_any, o_sum, o_max2, o_min2, o_eqB, o_neB, o_ixD, o_ixDi, p_str, p_int, s_frzD, hasD_md, small_md, D.seqs, D.tyN, List.getElem?_cons_zero, List.getElem?_cons_succ, List.set_cons_zero, List.set_cons_succ, List.map_cons, List.map_nil, Option.bind_some, Option.map_some, true_and, and_true, and_assoc, startD, Bool.not_true, Bool.not_false, List.length_cons, List.length_nil, List.nil_append, List.cons_append, List.append_nil, List.replicate, Nat.reduceSub, Nat.reduceAdd, Nat.reduceLeDiff, wipeD, unw, freeAt, Option.getD_some, List.all_cons, List.all_nil, Bool.and_true, Bool.and_self, Slot.free, Nat.zero_sub, Nat.sub_zero, Nat.sub_self, Nat.reduceEqDiff, id_eq, decide_true, decide_false, eq_self]
  refine lcR_map (fun s => s = [.v (.fz (.scr ns)), .un, .un, .un]) (fun d => match d with | .int i => .int (if i < 0 then -i else i) | d => d) (by simp; unfold sizeLine; omega) rfl ?_ ?_
  · rintro d hd s rfl R hR
    obtain ⟨i, _, rfl⟩ := List.mem_map.mp hd
    simp -dsimp only [↓s_var, ↓s_c, ↓s_op, ↓s_test, ↓s_truth, ↓s_chain, ↓s_and, ↓s_or, ↓s_not, ↓s_andV, ↓s_orV, ↓s_notV, ↓s_if, ↓s_un, ↓s_nil, ↓s_cons, ↓s_cb, ↓s_call, ↓s_tup, ↓s_lst, ↓s_nopart, ↓s_part, ↓s_sl, ↓s_app, ↓s_items, ↓s_rng1, ↓s_rng2, ↓s_rng3, ↓s_next, ↓s_seq, ↓s_break, ↓s_cont, ↓s_drop, ↓s_ret, ↓s_retN, ↓s_ifS, ↓s_asg, ↓s_gNm, ↓s_gTup, ↓s_gNil, ↓s_gCons, ↓s_aug, ↓s_par, ↓s_for, ↓s_while, ↓s_lc, ↓s_lc2, ↓s_yes, ↓s_tvs0, ↓s_tvs1, ↓s_tvV, ↓s_tvS, ↓s_rvV, ↓s_rvS, ↓s_enum, ↓s_zip, ↓s_callIO, ↓fin_t, pins_nil, pins_p, pins_v, pins_un, lent1, slotL_s, ↓putB_1, ↓s_setI, ↓s_dput, ↓s_daug, ↓s_dnew, ↓s_disp, ↓s_flat0, ↓s_flat1, ↓s_never, ↓s_raise, ↓s_neverE, mkD, D.key, Option.map_some, dgetM, ↓br_t, ↓br_f, ↓s_fin0, ↓s_ref, ↓s_tupRg, ↓s_lstRg, ↓s_rg1, ↓s_rg2, hide, hideS, s_resV, s_resS, s_resL0, s_resL1, s_slotM, s_setM, s_frz, s_frzL, wD_some, got_v, got_p, ↓gset_un, ↓gset_v, vslot_v, fslot_v, asB_b, asI_i, asT_t, asL_l, hasL_l, one_1, two_2, int1_1, int2_2, int3_3, ix0, ix1, Slot.fr?, Slot.m?, Slot.put, opz_f1, o_iop, b_lt, o_addI, o_addS, o_addT, o_addL, o_mulI, o_mulT, o_mulL, o_ixL, o_ixT, o_ixW, o_ixC, o_ixS, o_slL, o_slT, o_slS, o_lenL, o_lenT, o_lenW, o_lenC, o_lenD, o_lenS, o_abs, o_intI, o_intB, o_str, o_list, o_tupL, o_tupT, o_isN, o_isNotN, o_isTy, o_neg, t_non, t_bl, t_int, t_str, t_lst, t_tup, t_wtu, t_dic, i_lst, i_tup, i_wtu, i_scr, i_str, q_lst, q_scr, q_tup, q_wtu, o_sort, o_inL, o_inT, o_eqI, o_neI, o_all, o_any, o_sum, o_max2, o_min2, o_eqB, o_neB, o_ixD, o_ixDi, p_str, p_int, s_frzD, hasD_md, small_md, D.seqs, D.tyN, List.getElem?_cons_zero, List.getElem?_cons_succ, List.set_cons_zero, List.set_cons_succ, List.map_cons, List.map_nil, Option.bind_some, Option.map_some, true_and, and_true, and_assoc, startD, Bool.not_true, Bool.not_false, List.length_cons, List.length_nil, List.nil_append, List.cons_append, List.append_nil, List.replicate, Nat.reduceSub, Nat.reduceAdd, Nat.reduceLeDiff, wipeD, unw, freeAt, Option.getD_some, List.all_cons, List.all_nil, Bool.and_true, Bool.and_self, Slot.free, Nat.zero_sub, Nat.sub_zero, Nat.sub_self, Nat.reduceEqDiff, id_eq, decide_true, decide_false, eq_self]
    exact hR _ _ rfl rfl
  rintro s' rfl
  obtain ⟨cs, hcs, e⟩ : ∃ cs : List Int, (∀ c ∈ cs, 0 ≤ c) ∧ (ns.map D.int).map (fun (d : D) => match d with | .int i => D.int (if i < 0 then -i else i) | d => d) = cs.map D.int := by
    refine ⟨ns.map fun i => if i < 0 then -i else i, ?_, by simp [Function.comp_def]⟩
    intro c hc
    obtain ⟨i, _, rfl⟩ := List.mem_map.mp hc
    split <;> omega
  rw [e]
  simp -dsimp only [↓s_var, ↓s_c, ↓s_op, ↓s_test, ↓s_truth, ↓s_chain, ↓s_and, ↓s_or, ↓s_not, ↓s_andV, ↓s_orV, ↓s_notV, ↓s_if, ↓s_un, ↓s_nil, ↓s_cons, ↓s_cb, ↓s_call, ↓s_tup, ↓s_lst, ↓s_nopart, ↓s_part, ↓s_sl, ↓s_app, ↓s_items, ↓s_rng1, ↓s_rng2, ↓s_rng3, ↓s_next, ↓s_seq, ↓s_break, ↓s_cont, ↓s_drop, ↓s_ret, ↓s_retN, ↓s_ifS, ↓s_asg, ↓s_gNm, ↓s_gTup, ↓s_gNil, ↓s_gCons, ↓s_aug, ↓s_par, ↓s_for, ↓s_while, ↓s_lc, ↓s_lc2, ↓s_yes, ↓s_tvs0, ↓s_tvs1, ↓s_tvV, ↓s_tvS, ↓s_rvV, ↓s_rvS, ↓s_enum, ↓s_zip, ↓s_callIO, ↓fin_t, pins_nil, pins_p, pins_v, pins_un, lent1, slotL_s, ↓putB_1, ↓s_setI, ↓s_dput, ↓s_daug, ↓s_dnew, ↓s_disp, ↓s_flat0, ↓s_flat1, ↓s_never, ↓s_raise, ↓s_neverE, mkD, D.key, Option.map_some, dgetM, ↓br_t, ↓br_f, ↓s_fin0, ↓s_ref, ↓s_tupRg, ↓s_lstRg, ↓s_rg1, ↓s_rg2, hide, hideS, s_resV, s_resS, s_resL0, s_resL1, s_slotM, s_setM, s_frz, s_frzL, wD_some, got_v, got_p, ↓gset_un, ↓gset_v, vslot_v, fslot_v, asB_b, asI_i, asT_t, asL_l, hasL_l, one_1, two_2, int1_1, int2_2, int3_3, ix0, ix1, Slot.fr?, Slot.m?, Slot.put, opz_f1, o_iop, b_lt, o_addI, o_addS, o_addT, o_addL, o_mulI, o_mulT, o_mulL, o_ixL, o_ixT, o_ixW, o_ixC, o_ixS, o_slL, o_slT, o_slS, o_lenL, o_lenT, o_lenW, o_lenC, o_lenD, o_lenS, o_abs, o_intI, o_intB, o_str, o_list, o_tupL, o_tupT, o_isN, o_isNotN, o_isTy, o_neg, t_non, t_bl, t_int, t_str, t_lst, t_tup, t_wtu, t_dic, i_lst, i_tup, i_wtu, i_scr, i_str, q_lst, q_scr, q_tup, q_wtu, o_sort, o_inL, o_inT, o_eqI, o_neI, o_all, o_any, o_sum, o_max2, o_min2, o_eqB, o_neB, o_ixD, o_ixDi, p_str, p_int, s_frzD, hasD_md, small_md, D.seqs, D.tyN, List.getElem?_cons_zero, List.getElem?_cons_succ, List.set_cons_zero, List.set_cons_succ, List.map_cons, List.map_nil, Option.bind_some, Option.map_some, true_and, and_true, and_assoc, startD, Bool.not_true, Bool.not_false, List.length_cons, List.length_nil, List.nil_append, List.cons_append, List.append_nil, List.replicate, Nat.reduceSub, Nat.reduceAdd, Nat.reduceLeDiff, wipeD, unw, freeAt, Option.getD_some, List.all_cons, List.all_nil, Bool.and_true, Bool.and_self, Slot.free, Nat.zero_sub, Nat.sub_zero, Nat.sub_self, Nat.reduceEqDiff, id_eq, decide_true, decide_false, eq_self]
  refine for_of (fun i s => ∃ (z : Int) (a : DL.Slot), s = [.v (.fz (.scr ns)), .v (.fz (.lst (cs.map .int))), .v (.fz (.int z)), a] ∧ a.pinned = false ∧ 0 ≤ z ∧ z < 2147483647) ⟨_, _, rfl, rfl, by decide, by decide⟩ ?_ ?_
  · rintro i d s hd ⟨z, a, rfl, ha, z0, z1⟩ N B R hN - -
    rw [List.getElem?_map] at hd
    cases e : cs[i]? with
    | none => simp [e] at hd
    | some c =>
      simp [e] at hd
      subst hd
      simp -dsimp only [↓s_var, ↓s_c, ↓s_op, ↓s_test, ↓s_truth, ↓s_chain, ↓s_and, ↓s_or, ↓s_not, ↓s_andV, ↓s_orV, ↓s_notV, ↓s_if, ↓s_un, ↓s_nil, ↓s_cons, ↓s_cb, ↓s_call, ↓s_tup, ↓s_lst, ↓s_nopart, ↓s_part, ↓s_sl, ↓s_app, ↓s_items, ↓s_rng1, ↓s_rng2, ↓s_rng3, ↓s_next, ↓s_seq, ↓s_break, ↓s_cont, ↓s_drop, ↓s_ret, ↓s_retN, ↓s_ifS, ↓s_asg, ↓s_gNm, ↓s_gTup, ↓s_gNil, ↓s_gCons, ↓s_aug, ↓s_par, ↓s_for, ↓s_while, ↓s_lc, ↓s_lc2, ↓s_yes, ↓s_tvs0, ↓s_tvs1, ↓s_tvV, ↓s_tvS, ↓s_rvV, ↓s_rvS, ↓s_enum, ↓s_zip, ↓s_callIO, ↓fin_t, pins_nil, pins_p, pins_v, pins_un, lent1, slotL_s, ↓putB_1, ↓s_setI, ↓s_dput, ↓s_daug, ↓s_dnew, ↓s_disp, ↓s_flat0, ↓s_flat1, ↓s_never, ↓s_raise, ↓s_neverE, mkD, D.key, Option.map_some, dgetM, ↓br_t, ↓br_f, ↓s_fin0, ↓s_ref, ↓s_tupRg, ↓s_lstRg, ↓s_rg1, ↓s_rg2, hide, hideS, s_resV, s_resS, s_resL0, s_resL1, s_slotM, s_setM, s_frz, s_frzL, wD_some, got_v, got_p, ↓gset_un, ↓gset_v, vslot_v, fslot_v, asB_b, asI_i, asT_t, asL_l, hasL_l, one_1, two_2, int1_1, int2_2, int3_3, ix0, ix1, Slot.fr?, Slot.m?, Slot.put, opz_f1, o_iop, b_lt, o_addI, o_addS, o_addT, o_addL, o_mulI, o_mulT, o_mulL, o_ixL, o_ixT, o_ixW, o_ixC, o_ixS, o_slL, o_slT, o_slS, o_lenL, o_lenT, o_lenW, o_lenC, o_lenD, o_lenS, o_abs, o_intI, o_intB, o_str, o_list, o_tupL, o_tupT, o_isN, o_isNotN, o_isTy, o_neg, t_non, t_bl, t_int, t_str, t_lst, t_tup, t_wtu, t_dic, i_lst, i_tup, i_wtu, i_scr, i_str, q_lst, q_scr, q_tup, q_wtu, o_sort, o_inL, o_inT, o_eqI, o_neI, o_all, o_any, o_sum, o_max2, o_min2, o_eqB, o_neB, o_ixD, o_ixDi, p_str, p_int, s_frzD, hasD_md, small_md, D.seqs, D.tyN, List.getElem?_cons_zero, List.getElem?_cons_succ, List.set_cons_zero, List.set_cons_succ, List.map_cons, List.map_nil, Option.bind_some, Option.map_some, true_and, and_true, and_assoc, startD, Bool.not_true, Bool.not_false, List.length_cons, List.length_nil, List.nil_append, List.cons_append, List.append_nil, List.replicate, Nat.reduceSub, Nat.reduceAdd, Nat.reduceLeDiff, wipeD, unw, freeAt, Option.getD_some, List.all_cons, List.all_nil, Bool.and_true, Bool.and_self, Slot.free, Nat.zero_sub, Nat.sub_zero, Nat.sub_self, Nat.reduceEqDiff, id_eq, decide_true, decide_false, eq_self,  gset_free ha]
      exact ⟨cmul_r (by decide) (by decide), by decide, hN _ ⟨_, _, rfl, rfl, fmod_nn (by decide), fmod_lt (by decide)⟩⟩
  · rintro s ⟨z, a, rfl, ha, z0, z1⟩
    simp -dsimp only [↓s_var, ↓s_c, ↓s_op, ↓s_test, ↓s_truth, ↓s_chain, ↓s_and, ↓s_or, ↓s_not, ↓s_andV, ↓s_orV, ↓s_notV, ↓s_if, ↓s_un, ↓s_nil, ↓s_cons, ↓s_cb, ↓s_call, ↓s_tup, ↓s_lst, ↓s_nopart, ↓s_part, ↓s_sl, ↓s_app, ↓s_items, ↓s_rng1, ↓s_rng2, ↓s_rng3, ↓s_next, ↓s_seq, ↓s_break, ↓s_cont, ↓s_drop, ↓s_ret, ↓s_retN, ↓s_ifS, ↓s_asg, ↓s_gNm, ↓s_gTup, ↓s_gNil, ↓s_gCons, ↓s_aug, ↓s_par, ↓s_for, ↓s_while, ↓s_lc, ↓s_lc2, ↓s_yes, ↓s_tvs0, ↓s_tvs1, ↓s_tvV, ↓s_tvS, ↓s_rvV, ↓s_rvS, ↓s_enum, ↓s_zip, ↓s_callIO, ↓fin_t, pins_nil, pins_p, pins_v, pins_un, lent1, slotL_s, ↓putB_1, ↓s_setI, ↓s_dput, ↓s_daug, ↓s_dnew, ↓s_disp, ↓s_flat0, ↓s_flat1, ↓s_never, ↓s_raise, ↓s_neverE, mkD, D.key, Option.map_some, dgetM, ↓br_t, ↓br_f, ↓s_fin0, ↓s_ref, ↓s_tupRg, ↓s_lstRg, ↓s_rg1, ↓s_rg2, hide, hideS, s_resV, s_resS, s_resL0, s_resL1, s_slotM, s_setM, s_frz, s_frzL, wD_some, got_v, got_p, ↓gset_un, ↓gset_v, vslot_v, fslot_v, asB_b, asI_i, asT_t, asL_l, hasL_l, one_1, two_2, int1_1, int2_2, int3_3, ix0, ix1, Slot.fr?, Slot.m?, Slot.put, opz_f1, o_iop, b_lt, o_addI, o_addS, o_addT, o_addL, o_mulI, o_mulT, o_mulL, o_ixL, o_ixT, o_ixW, o_ixC, o_ixS, o_slL, o_slT, o_slS, o_lenL, o_lenT, o_lenW, o_lenC, o_lenD, o_lenS, o_abs, o_intI, o_intB, o_str, o_list, o_tupL, o_tupT, o_isN, o_isNotN, o_isTy, o_neg, t_non, t_bl, t_int, t_str, t_lst, t_tup, t_wtu, t_dic, i_lst, i_tup, i_wtu, i_scr, i_str, q_lst, q_scr, q_tup, q_wtu, o_sort, o_inL, o_inT, o_eqI, o_neI, o_all, o_any, o_sum, o_max2, o_min2, o_eqB, o_neB, o_ixD, o_ixDi, p_str, p_int, s_frzD, hasD_md, small_md, D.seqs, D.tyN, List.getElem?_cons_zero, List.getElem?_cons_succ, List.set_cons_zero, List.set_cons_succ, List.map_cons, List.map_nil, Option.bind_some, Option.map_some, true_and, and_true, and_assoc, startD, Bool.not_true, Bool.not_false, List.length_cons, List.length_nil, List.nil_append, List.cons_append, List.append_nil, List.replicate, Nat.reduceSub, Nat.reduceAdd, Nat.reduceLeDiff, wipeD, unw, freeAt, Option.getD_some, List.all_cons, List.all_nil, Bool.and_true, Bool.and_self, Slot.free, Nat.zero_sub, Nat.sub_zero, Nat.sub_self, Nat.reduceEqDiff, id_eq, decide_true, decide_false, eq_self]
    exact q _ ⟨cs, 0, 0, z, 0, rfl, hcs, by decide, by decide, z0, z1, by decide⟩
def c__law_take : CT
  | [m, .fz (.int many)], R, _ => Tape m ∧ 1 ≤ many ∧ many < 1073741824 ∧ ∀ v m', 0 ≤ v → v < many → Tape m' → R (.fz (.int v)) [m']
  | _, _, _ => False
theorem sc__law_take : FnScope N__law_take ["tape", "many"] (defScope s__law_take) := ⟨rfl, rfl, rfl, by decide +kernel, rfl, by decide +kernel, by decide +kernel⟩
theorem ok__law_take (T : Txt K mg C_InvalidPlan) (F : TopFn K mg "_law_take" s__law_take ["tape", "many"]) : FnAt P w K mg base TB 1 "_law_take" ["tape", "many"] true c__law_take := by
  have nd := sc__law_take.nd
  refine fnAt F sc__law_take (fun ms R X h => by unfold c__law_take at h; split at h <;> first | rfl | exact h.elim) (fun _ => by decide) fun f cdv A outer s H E x0 Xd hr => ?_
  refine ⟨_, _, (dss_cons (ds_if (DW.pt (dw_and (dt_cmp (op_eqA rfl (hu64 hr)) od_eq (de_ix rfl (hu1 hr) (dv 0) de_str) de_int (nomark _)) (dw_and1 (dt_cmp op_lt od_lt (de_ix rfl (hu1 hr) (dv 0) de_str) (de_callB (call_lenA rfl) cd_len (by rfl) T.n_len bo_len (da_cons (de_ix rfl (hu1 hr) (dv 0) de_str) da_nil)) (nomark _)))))
      (dss_cons (ds_dput (i := 0) (hu1 hr) rfl (de_ix rfl (hu1 hr) (de_ix rfl (hu1 hr) (dv 0) de_str) (de_ix rfl (hu1 hr) (dv 0) de_str)) de_str)
      (dss_one (ds_dput (i := 0) (hu1 hr) rfl (de_op (op_addA rfl) od_add (de_ix rfl (hu1 hr) (dv 0) de_str) de_int) de_str)))
      dss_nil)
      (dss_cons (ds_if (dt_cmp op_gt od_gt (de_ix rfl (hu1 hr) (dv 0) de_str) de_int (nomark _))
      (dss_cons (ds_set (i := 3) nd rfl (by first | exact Or.inl rfl | exact Or.inr rfl) (de_op op_modN od_mod (de_callTy call_intA cd_int (by rfl) T.n_int bo_int (da_cons (de_ix rfl (hu1 hr) (dv 0) de_str) da_nil)) (dv 1)))
      (dss_cons (ds_dput (i := 0) (hu1 hr) rfl (de_op op_fdivA od_fdiv (de_ix rfl (hu1 hr) (dv 0) de_str) (dv 1)) de_str)
      (dss_one (ds_ret (dv 3)))))
      dss_nil)
      (dss_cons (ds_dput (i := 0) (hu1 hr) rfl (de_op (op_addA rfl) od_add (de_ix rfl (hu1 hr) (dv 0) de_str) de_int) de_str)
      (dss_cons (ds_set (i := 2) nd rfl (by first | exact Or.inl rfl | exact Or.inr rfl) (de_op op_modN od_mod (de_callTy call_intA cd_int (by rfl) T.n_int bo_int (da_cons (de_op (op_addA rfl) od_add (de_op (op_mulA rfl) od_mul (de_ix rfl (hu1 hr) (dv 0) de_str) de_int) (de_op (op_mulA rfl) od_mul (de_ix rfl (hu1 hr) (dv 0) de_str) de_int)) da_nil)) de_int))
      (dss_cons (ds_set (i := 2) nd rfl (by first | exact Or.inl rfl | exact Or.inr rfl) (de_op op_modN od_mod (de_callTy call_intA cd_int (by rfl) T.n_int bo_int (da_cons (de_op (op_addA rfl) od_add (de_op (op_addA rfl) od_add (de_op (op_mulA rfl) od_mul (dv 2) (dv 2)) (de_op (op_mulA rfl) od_mul (de_ix rfl (hu1 hr) (dv 0) de_str) de_int)) de_int) da_nil)) de_int))
      (dss_one (ds_ret (de_op op_modN od_mod (de_callTy call_intA cd_int (by rfl) T.n_int bo_int (da_cons (dv 2) da_nil)) (dv 1))))))))), ?_⟩
  intro ms Rd h
  unfold c__law_take at h
  split at h <;> first | exact (show False from h).elim | skip
  rename_i m many
  obtain ⟨⟨cells, at', left, seed, salt, rfl, hc, ha, hl, hs0, hs1, hz⟩, hm, hm2, q⟩ := h
  refine join (fun s => ∃ at' left, s = [.p x0 (.md (tapeD cells at' left seed salt)), .v (.fz (.int many)), .un, .un] ∧ 0 ≤ at' ∧ 0 ≤ left) ?_ ?_
  · intro N hN
    simp -dsimp only [↓s_var, ↓s_c, ↓s_op, ↓s_test, ↓s_truth, ↓s_chain, ↓s_and, ↓s_or, ↓s_not, ↓s_andV, ↓s_orV, ↓s_notV, ↓s_if, ↓s_un, ↓s_nil, ↓s_cons, ↓s_cb, ↓s_call, ↓s_tup, ↓s_lst, ↓s_nopart, ↓s_part, ↓s_sl, ↓s_app, ↓s_items, ↓s_rng1, ↓s_rng2, ↓s_rng3, ↓s_next, ↓s_seq, ↓s_break, ↓s_cont, ↓s_drop, ↓s_ret, ↓s_retN, ↓s_ifS, ↓s_asg, ↓s_gNm, ↓s_gTup, ↓s_gNil, ↓s_gCons, ↓s_aug, ↓s_par, ↓s_for, ↓s_while, ↓s_lc, ↓s_lc2, ↓s_yes, ↓s_tvs0, ↓s_tvs1, ↓s_tvV, ↓s_tvS, ↓s_rvV, ↓s_rvS, ↓s_enum, ↓s_zip, ↓s_callIO, ↓fin_t, pins_nil, pins_p, pins_v, pins_un, lent1, slotL_s, ↓putB_1, ↓s_setI, ↓s_dput, ↓s_daug, ↓s_dnew, ↓s_disp, ↓s_flat0, ↓s_flat1, ↓s_never, ↓s_raise, ↓s_neverE, mkD, D.key, Option.map_some, dgetM, ↓br_t, ↓br_f, ↓s_fin0, ↓s_ref, ↓s_tupRg, ↓s_lstRg, ↓s_rg1, ↓s_rg2, hide, hideS, s_resV, s_resS, s_resL0, s_resL1, s_slotM, s_setM, s_frz, s_frzL, wD_some, got_v, got_p, ↓gset_un, ↓gset_v, vslot_v, fslot_v, asB_b, asI_i, asT_t, asL_l, hasL_l, one_1, two_2, int1_1, int2_2, int3_3, ix0, ix1, Slot.fr?, Slot.m?, Slot.put, opz_f1, o_iop, b_lt, o_addI, o_addS, o_addT, o_addL, o_mulI, o_mulT, o_mulL, o_ixL, o_ixT, o_ixW, o_ixC, o_ixS, o_slL, o_slT, o_slS, o_lenL, o_lenT, o_lenW, o_lenC, o_lenD, o_lenS, o_abs, o_intI, o_intB, o_str, o_list, o_tupL, o_tupT, o_isN, o_isNotN, o_isTy, o_neg, t_non, t_bl, t_int, t_str, t_lst, t_tup, t_wtu, t_dic, i_lst, i_tup, i_wtu, i_scr, i_str, q_lst, q_scr, q_tup, q_wtu, o_sort, o_inL, o_inT, o_eqI, o_neI, o_all, o_any, o_sum, o_max2, o_min2, o_eqB, o_neB, o_ixD, o_ixDi, p_str, p_int, s_frzD, hasD_md, small_md, D.seqs, D.tyN, List.getElem?_cons_zero, List.getElem?_cons_succ, List.set_cons_zero, List.set_cons_succ, List.map_cons, List.map_nil, Option.bind_some, Option.map_some, true_and, and_true, and_assoc, startD, Bool.not_true, Bool.not_false, List.length_cons, List.length_nil, List.nil_append, List.cons_append, List.append_nil, List.replicate, Nat.reduceSub, Nat.reduceAdd, Nat.reduceLeDiff, wipeD, unw, freeAt, Option.getD_some, List.all_cons, List.all_nil, Bool.and_true, Bool.and_self, Slot.free, Nat.zero_sub, Nat.sub_zero, Nat.sub_self, Nat.reduceEqDiff, id_eq, decide_true, decide_false, eq_self,  td_cells, td_at, td_left, td_seed, td_salt, tp_at, tp_left, tp_salt, td_len]
    refine br_dec (fun h => ?_) (fun h => ?_)
    · simp -dsimp only [↓s_var, ↓s_c, ↓s_op, ↓s_test, ↓s_truth, ↓s_chain, ↓s_and, ↓s_or, ↓s_not, ↓s_andV, ↓s_orV, ↓s_notV, ↓s_if, ↓s_un, ↓s_nil, ↓s_cons, ↓s_cb, ↓s_call, ↓s_tup, ↓s_lst, ↓s_nopart, ↓s_part, ↓s_sl, ↓s_app, ↓s_items, ↓s_rng1, ↓s_rng2, ↓s_rng3, ↓s_next, ↓s_seq, ↓s_break, ↓s_cont, ↓s_drop, ↓s_ret, ↓s_retN, ↓s_ifS, ↓s_asg, ↓s_gNm, ↓s_gTup, ↓s_gNil, ↓s_gCons, ↓s_aug, ↓s_par, ↓s_for, ↓s_while, ↓s_lc, ↓s_lc2, ↓s_yes, ↓s_tvs0, ↓s_tvs1, ↓s_tvV, ↓s_tvS, ↓s_rvV, ↓s_rvS, ↓s_enum, ↓s_zip, ↓s_callIO, ↓fin_t, pins_nil, pins_p, pins_v, pins_un, lent1, slotL_s, ↓putB_1, ↓s_setI, ↓s_dput, ↓s_daug, ↓s_dnew, ↓s_disp, ↓s_flat0, ↓s_flat1, ↓s_never, ↓s_raise, ↓s_neverE, mkD, D.key, Option.map_some, dgetM, ↓br_t, ↓br_f, ↓s_fin0, ↓s_ref, ↓s_tupRg, ↓s_lstRg, ↓s_rg1, ↓s_rg2, hide, hideS, s_resV, s_resS, s_resL0, s_resL1, s_slotM, s_setM, s_frz, s_frzL, wD_some, got_v, got_p, ↓gset_un, ↓gset_v, vslot_v, fslot_v, asB_b, asI_i, asT_t, asL_l, hasL_l, one_1, two_2, int1_1, int2_2, int3_3, ix0, ix1, Slot.fr?, Slot.m?, Slot.put, opz_f1, o_iop, b_lt, o_addI, o_addS, o_addT, o_addL, o_mulI, o_mulT, o_mulL, o_ixL, o_ixT, o_ixW, o_ixC, o_ixS, o_slL, o_slT, o_slS, o_lenL, o_lenT, o_lenW, o_lenC, o_lenD, o_lenS, o_abs, o_intI, o_intB, o_str, o_list, o_tupL, o_tupT, o_isN, o_isNotN, o_isTy, o_neg, t_non, t_bl, t_int, t_str, t_lst, t_tup, t_wtu, t_dic, i_lst, i_tup, i_wtu, i_scr, i_str, q_lst, q_scr, q_tup, q_wtu, o_sort, o_inL, o_inT, o_eqI, o_neI, o_all, o_any, o_sum, o_max2, o_min2, o_eqB, o_neB, o_ixD, o_ixDi, p_str, p_int, s_frzD, hasD_md, small_md, D.seqs, D.tyN, List.getElem?_cons_zero, List.getElem?_cons_succ, List.set_cons_zero, List.set_cons_succ, List.map_cons, List.map_nil, Option.bind_some, Option.map_some, true_and, and_true, and_assoc, startD, Bool.not_true, Bool.not_false, List.length_cons, List.length_nil, List.nil_append, List.cons_append, List.append_nil, List.replicate, Nat.reduceSub, Nat.reduceAdd, Nat.reduceLeDiff, wipeD, unw, freeAt, Option.getD_some, List.all_cons, List.all_nil, Bool.and_true, Bool.and_self, Slot.free, Nat.zero_sub, Nat.sub_zero, Nat.sub_self, Nat.reduceEqDiff, id_eq, decide_true, decide_false, eq_self,  td_cells, td_at, td_left, td_seed, td_salt, tp_at, tp_left, tp_salt, td_len]
      refine br_dec (fun h => ?_) (fun h => ?_)
      · simp -dsimp only [↓s_var, ↓s_c, ↓s_op, ↓s_test, ↓s_truth, ↓s_chain, ↓s_and, ↓s_or, ↓s_not, ↓s_andV, ↓s_orV, ↓s_notV, ↓s_if, ↓s_un, ↓s_nil, ↓s_cons, ↓s_cb, ↓s_call, ↓s_tup, ↓s_lst, ↓s_nopart, ↓s_part, ↓s_sl, ↓s_app, ↓s_items, ↓s_rng1, ↓s_rng2, ↓s_rng3, ↓s_next, ↓s_seq, ↓s_break, ↓s_cont, ↓s_drop, ↓s_ret, ↓s_retN, ↓s_ifS, ↓s_asg, ↓s_gNm, ↓s_gTup, ↓s_gNil, ↓s_gCons, ↓s_aug, ↓s_par, ↓s_for, ↓s_while, ↓s_lc, ↓s_lc2, ↓s_yes, ↓s_tvs0, ↓s_tvs1, ↓s_tvV, ↓s_tvS, ↓s_rvV, ↓s_rvS, ↓s_enum, ↓s_zip, ↓s_callIO, ↓fin_t, pins_nil, pins_p, pins_v, pins_un, lent1, slotL_s, ↓putB_1, ↓s_setI, ↓s_dput, ↓s_daug, ↓s_dnew, ↓s_disp, ↓s_flat0, ↓s_flat1, ↓s_never, ↓s_raise, ↓s_neverE, mkD, D.key, Option.map_some, dgetM, ↓br_t, ↓br_f, ↓s_fin0, ↓s_ref, ↓s_tupRg, ↓s_lstRg, ↓s_rg1, ↓s_rg2, hide, hideS, s_resV, s_resS, s_resL0, s_resL1, s_slotM, s_setM, s_frz, s_frzL, wD_some, got_v, got_p, ↓gset_un, ↓gset_v, vslot_v, fslot_v, asB_b, asI_i, asT_t, asL_l, hasL_l, one_1, two_2, int1_1, int2_2, int3_3, ix0, ix1, Slot.fr?, Slot.m?, Slot.put, opz_f1, o_iop, b_lt, o_addI, o_addS, o_addT, o_addL, o_mulI, o_mulT, o_mulL, o_ixL, o_ixT, o_ixW, o_ixC, o_ixS, o_slL, o_slT, o_slS, o_lenL, o_lenT, o_lenW, o_lenC, o_lenD, o_lenS, o_abs, o_intI, o_intB, o_str, o_list, o_tupL, o_tupT, o_isN, o_isNotN, o_isTy, o_neg, t_non, t_bl, t_int, t_str, t_lst, t_tup, t_wtu, t_dic, i_lst, i_tup, i_wtu, i_scr, i_str, q_lst, q_scr, q_tup, q_wtu, o_sort, o_inL, o_inT, o_eqI, o_neI, o_all, o_any, o_sum, o_max2, o_min2, o_eqB, o_neB, o_ixD, o_ixDi, p_str, p_int, s_frzD, hasD_md, small_md, D.seqs, D.tyN, List.getElem?_cons_zero, List.getElem?_cons_succ, List.set_cons_zero, List.set_cons_succ, List.map_cons, List.map_nil, Option.bind_some, Option.map_some, true_and, and_true, and_assoc, startD, Bool.not_true, Bool.not_false, List.length_cons, List.length_nil, List.nil_append, List.cons_append, List.append_nil, List.replicate, Nat.reduceSub, Nat.reduceAdd, Nat.reduceLeDiff, wipeD, unw, freeAt, Option.getD_some, List.all_cons, List.all_nil, Bool.and_true, Bool.and_self, Slot.free, Nat.zero_sub, Nat.sub_zero, Nat.sub_self, Nat.reduceEqDiff, id_eq, decide_true, decide_false, eq_self,  td_cells, td_at, td_left, td_seed, td_salt, tp_at, tp_left, tp_salt, td_len]
        have hlt : at'.toNat < cells.length := by simp at h; omega
        have hat : atI (cells.map D.int) at' = some (.int cells[at'.toNat]) := by
          rw [atI_pos (.int 0) ha (by simpa using h)]
          simp [hlt]
        refine wD_of hat ?_
        simp -dsimp only [↓s_var, ↓s_c, ↓s_op, ↓s_test, ↓s_truth, ↓s_chain, ↓s_and, ↓s_or, ↓s_not, ↓s_andV, ↓s_orV, ↓s_notV, ↓s_if, ↓s_un, ↓s_nil, ↓s_cons, ↓s_cb, ↓s_call, ↓s_tup, ↓s_lst, ↓s_nopart, ↓s_part, ↓s_sl, ↓s_app, ↓s_items, ↓s_rng1, ↓s_rng2, ↓s_rng3, ↓s_next, ↓s_seq, ↓s_break, ↓s_cont, ↓s_drop, ↓s_ret, ↓s_retN, ↓s_ifS, ↓s_asg, ↓s_gNm, ↓s_gTup, ↓s_gNil, ↓s_gCons, ↓s_aug, ↓s_par, ↓s_for, ↓s_while, ↓s_lc, ↓s_lc2, ↓s_yes, ↓s_tvs0, ↓s_tvs1, ↓s_tvV, ↓s_tvS, ↓s_rvV, ↓s_rvS, ↓s_enum, ↓s_zip, ↓s_callIO, ↓fin_t, pins_nil, pins_p, pins_v, pins_un, lent1, slotL_s, ↓putB_1, ↓s_setI, ↓s_dput, ↓s_daug, ↓s_dnew, ↓s_disp, ↓s_flat0, ↓s_flat1, ↓s_never, ↓s_raise, ↓s_neverE, mkD, D.key, Option.map_some, dgetM, ↓br_t, ↓br_f, ↓s_fin0, ↓s_ref, ↓s_tupRg, ↓s_lstRg, ↓s_rg1, ↓s_rg2, hide, hideS, s_resV, s_resS, s_resL0, s_resL1, s_slotM, s_setM, s_frz, s_frzL, wD_some, got_v, got_p, ↓gset_un, ↓gset_v, vslot_v, fslot_v, asB_b, asI_i, asT_t, asL_l, hasL_l, one_1, two_2, int1_1, int2_2, int3_3, ix0, ix1, Slot.fr?, Slot.m?, Slot.put, opz_f1, o_iop, b_lt, o_addI, o_addS, o_addT, o_addL, o_mulI, o_mulT, o_mulL, o_ixL, o_ixT, o_ixW, o_ixC, o_ixS, o_slL, o_slT, o_slS, o_lenL, o_lenT, o_lenW, o_lenC, o_lenD, o_lenS, o_abs, o_intI, o_intB, o_str, o_list, o_tupL, o_tupT, o_isN, o_isNotN, o_isTy, o_neg, t_non, t_bl, t_int, t_str, t_lst, t_tup, t_wtu, t_dic, i_lst, i_tup, i_wtu, i_scr, i_str, q_lst, q_scr, q_tup, q_wtu, o_sort, o_inL, o_inT, o_eqI, o_neI, o_all, o_any, o_sum, o_max2, o_min2, o_eqB, o_neB, o_ixD, o_ixDi, p_str, p_int, s_frzD, hasD_md, small_md, D.seqs, D.tyN, List.getElem?_cons_zero, List.getElem?_cons_succ, List.set_cons_zero, List.set_cons_succ, List.map_cons, List.map_nil, Option.bind_some, Option.map_some, true_and, and_true, and_assoc, startD, Bool.not_true, Bool.not_false, List.length_cons, List.length_nil, List.nil_append, List.cons_append, List.append_nil, List.replicate, Nat.reduceSub, Nat.reduceAdd, Nat.reduceLeDiff, wipeD, unw, freeAt, Option.getD_some, List.all_cons, List.all_nil, Bool.and_true, Bool.and_self, Slot.free, Nat.zero_sub, Nat.sub_zero, Nat.sub_self, Nat.reduceEqDiff, id_eq, decide_true, decide_false, eq_self,  td_cells, td_at, td_left, td_seed, td_salt, tp_at, tp_left, tp_salt, td_len]
        exact ⟨by decide, by decide, hN _ ⟨_, _, rfl, by omega, hc _ (List.getElem_mem hlt)⟩⟩
      · simp -dsimp only [↓s_var, ↓s_c, ↓s_op, ↓s_test, ↓s_truth, ↓s_chain, ↓s_and, ↓s_or, ↓s_not, ↓s_andV, ↓s_orV, ↓s_notV, ↓s_if, ↓s_un, ↓s_nil, ↓s_cons, ↓s_cb, ↓s_call, ↓s_tup, ↓s_lst, ↓s_nopart, ↓s_part, ↓s_sl, ↓s_app, ↓s_items, ↓s_rng1, ↓s_rng2, ↓s_rng3, ↓s_next, ↓s_seq, ↓s_break, ↓s_cont, ↓s_drop, ↓s_ret, ↓s_retN, ↓s_ifS, ↓s_asg, ↓s_gNm, ↓s_gTup, ↓s_gNil, ↓s_gCons, ↓s_aug, ↓s_par, ↓s_for, ↓s_while, ↓s_lc, ↓s_lc2, ↓s_yes, ↓s_tvs0, ↓s_tvs1, ↓s_tvV, ↓s_tvS, ↓s_rvV, ↓s_rvS, ↓s_enum, ↓s_zip, ↓s_callIO, ↓fin_t, pins_nil, pins_p, pins_v, pins_un, lent1, slotL_s, ↓putB_1, ↓s_setI, ↓s_dput, ↓s_daug, ↓s_dnew, ↓s_disp, ↓s_flat0, ↓s_flat1, ↓s_never, ↓s_raise, ↓s_neverE, mkD, D.key, Option.map_some, dgetM, ↓br_t, ↓br_f, ↓s_fin0, ↓s_ref, ↓s_tupRg, ↓s_lstRg, ↓s_rg1, ↓s_rg2, hide, hideS, s_resV, s_resS, s_resL0, s_resL1, s_slotM, s_setM, s_frz, s_frzL, wD_some, got_v, got_p, ↓gset_un, ↓gset_v, vslot_v, fslot_v, asB_b, asI_i, asT_t, asL_l, hasL_l, one_1, two_2, int1_1, int2_2, int3_3, ix0, ix1, Slot.fr?, Slot.m?, Slot.put, opz_f1, o_iop, b_lt, o_addI, o_addS, o_addT, o_addL, o_mulI, o_mulT, o_mulL, o_ixL, o_ixT, o_ixW, o_ixC, o_ixS, o_slL, o_slT, o_slS, o_lenL, o_lenT, o_lenW, o_lenC, o_lenD, o_lenS, o_abs, o_intI, o_intB, o_str, o_list, o_tupL, o_tupT, o_isN, o_isNotN, o_isTy, o_neg, t_non, t_bl, t_int, t_str, t_lst, t_tup, t_wtu, t_dic, i_lst, i_tup, i_wtu, i_scr, i_str, q_lst, q_scr, q_tup, q_wtu, o_sort, o_inL, o_inT, o_eqI, o_neI, o_all, o_any, o_sum, o_max2, o_min2, o_eqB, o_neB, o_ixD, o_ixDi, p_str, p_int, s_frzD, hasD_md, small_md, D.seqs, D.tyN, List.getElem?_cons_zero, List.getElem?_cons_succ, List.set_cons_zero, List.set_cons_succ, List.map_cons, List.map_nil, Option.bind_some, Option.map_some, true_and, and_true, and_assoc, startD, Bool.not_true, Bool.not_false, List.length_cons, List.length_nil, List.nil_append, List.cons_append, List.append_nil, List.replicate, Nat.reduceSub, Nat.reduceAdd, Nat.reduceLeDiff, wipeD, unw, freeAt, Option.getD_some, List.all_cons, List.all_nil, Bool.and_true, Bool.and_self, Slot.free, Nat.zero_sub, Nat.sub_zero, Nat.sub_self, Nat.reduceEqDiff, id_eq, decide_true, decide_false, eq_self]
        exact hN _ ⟨_, _, rfl, ha, hl⟩
    · simp -dsimp only [↓s_var, ↓s_c, ↓s_op, ↓s_test, ↓s_truth, ↓s_chain, ↓s_and, ↓s_or, ↓s_not, ↓s_andV, ↓s_orV, ↓s_notV, ↓s_if, ↓s_un, ↓s_nil, ↓s_cons, ↓s_cb, ↓s_call, ↓s_tup, ↓s_lst, ↓s_nopart, ↓s_part, ↓s_sl, ↓s_app, ↓s_items, ↓s_rng1, ↓s_rng2, ↓s_rng3, ↓s_next, ↓s_seq, ↓s_break, ↓s_cont, ↓s_drop, ↓s_ret, ↓s_retN, ↓s_ifS, ↓s_asg, ↓s_gNm, ↓s_gTup, ↓s_gNil, ↓s_gCons, ↓s_aug, ↓s_par, ↓s_for, ↓s_while, ↓s_lc, ↓s_lc2, ↓s_yes, ↓s_tvs0, ↓s_tvs1, ↓s_tvV, ↓s_tvS, ↓s_rvV, ↓s_rvS, ↓s_enum, ↓s_zip, ↓s_callIO, ↓fin_t, pins_nil, pins_p, pins_v, pins_un, lent1, slotL_s, ↓putB_1, ↓s_setI, ↓s_dput, ↓s_daug, ↓s_dnew, ↓s_disp, ↓s_flat0, ↓s_flat1, ↓s_never, ↓s_raise, ↓s_neverE, mkD, D.key, Option.map_some, dgetM, ↓br_t, ↓br_f, ↓s_fin0, ↓s_ref, ↓s_tupRg, ↓s_lstRg, ↓s_rg1, ↓s_rg2, hide, hideS, s_resV, s_resS, s_resL0, s_resL1, s_slotM, s_setM, s_frz, s_frzL, wD_some, got_v, got_p, ↓gset_un, ↓gset_v, vslot_v, fslot_v, asB_b, asI_i, asT_t, asL_l, hasL_l, one_1, two_2, int1_1, int2_2, int3_3, ix0, ix1, Slot.fr?, Slot.m?, Slot.put, opz_f1, o_iop, b_lt, o_addI, o_addS, o_addT, o_addL, o_mulI, o_mulT, o_mulL, o_ixL, o_ixT, o_ixW, o_ixC, o_ixS, o_slL, o_slT, o_slS, o_lenL, o_lenT, o_lenW, o_lenC, o_lenD, o_lenS, o_abs, o_intI, o_intB, o_str, o_list, o_tupL, o_tupT, o_isN, o_isNotN, o_isTy, o_neg, t_non, t_bl, t_int, t_str, t_lst, t_tup, t_wtu, t_dic, i_lst, i_tup, i_wtu, i_scr, i_str, q_lst, q_scr, q_tup, q_wtu, o_sort, o_inL, o_inT, o_eqI, o_neI, o_all, o_any, o_sum, o_max2, o_min2, o_eqB, o_neB, o_ixD, o_ixDi, p_str, p_int, s_frzD, hasD_md, small_md, D.seqs, D.tyN, List.getElem?_cons_zero, List.getElem?_cons_succ, List.set_cons_zero, List.set_cons_succ, List.map_cons, List.map_nil, Option.bind_some, Option.map_some, true_and, and_true, and_assoc, startD, Bool.not_true, Bool.not_false, List.length_cons, List.length_nil, List.nil_append, List.cons_append, List.append_nil, List.replicate, Nat.reduceSub, Nat.reduceAdd, Nat.reduceLeDiff, wipeD, unw, freeAt, Option.getD_some, List.all_cons, List.all_nil, Bool.and_true, Bool.and_self, Slot.free, Nat.zero_sub, Nat.sub_zero, Nat.sub_self, Nat.reduceEqDiff, id_eq, decide_true, decide_false, eq_self]
      exact hN _ ⟨_, _, rfl, ha, hl⟩
  · rintro s ⟨at', left, rfl, ha, hl⟩
    simp -dsimp only [↓s_var, ↓s_c, ↓s_op, ↓s_test, ↓s_truth, ↓s_chain, ↓s_and, ↓s_or, ↓s_not, ↓s_andV, ↓s_orV, ↓s_notV, ↓s_if, ↓s_un, ↓s_nil, ↓s_cons, ↓s_cb, ↓s_call, ↓s_tup, ↓s_lst, ↓s_nopart, ↓s_part, ↓s_sl, ↓s_app, ↓s_items, ↓s_rng1, ↓s_rng2, ↓s_rng3, ↓s_next, ↓s_seq, ↓s_break, ↓s_cont, ↓s_drop, ↓s_ret, ↓s_retN, ↓s_ifS, ↓s_asg, ↓s_gNm, ↓s_gTup, ↓s_gNil, ↓s_gCons, ↓s_aug, ↓s_par, ↓s_for, ↓s_while, ↓s_lc, ↓s_lc2, ↓s_yes, ↓s_tvs0, ↓s_tvs1, ↓s_tvV, ↓s_tvS, ↓s_rvV, ↓s_rvS, ↓s_enum, ↓s_zip, ↓s_callIO, ↓fin_t, pins_nil, pins_p, pins_v, pins_un, lent1, slotL_s, ↓putB_1, ↓s_setI, ↓s_dput, ↓s_daug, ↓s_dnew, ↓s_disp, ↓s_flat0, ↓s_flat1, ↓s_never, ↓s_raise, ↓s_neverE, mkD, D.key, Option.map_some, dgetM, ↓br_t, ↓br_f, ↓s_fin0, ↓s_ref, ↓s_tupRg, ↓s_lstRg, ↓s_rg1, ↓s_rg2, hide, hideS, s_resV, s_resS, s_resL0, s_resL1, s_slotM, s_setM, s_frz, s_frzL, wD_some, got_v, got_p, ↓gset_un, ↓gset_v, vslot_v, fslot_v, asB_b, asI_i, asT_t, asL_l, hasL_l, one_1, two_2, int1_1, int2_2, int3_3, ix0, ix1, Slot.fr?, Slot.m?, Slot.put, opz_f1, o_iop, b_lt, o_addI, o_addS, o_addT, o_addL, o_mulI, o_mulT, o_mulL, o_ixL, o_ixT, o_ixW, o_ixC, o_ixS, o_slL, o_slT, o_slS, o_lenL, o_lenT, o_lenW, o_lenC, o_lenD, o_lenS, o_abs, o_intI, o_intB, o_str, o_list, o_tupL, o_tupT, o_isN, o_isNotN, o_isTy, o_neg, t_non, t_bl, t_int, t_str, t_lst, t_tup, t_wtu, t_dic, i_lst, i_tup, i_wtu, i_scr, i_str, q_lst, q_scr, q_tup, q_wtu, o_sort, o_inL, o_inT, o_eqI, o_neI, o_all, o_any, o_sum, o_max2, o_min2, o_eqB, o_neB, o_ixD, o_ixDi, p_str, p_int, s_frzD, hasD_md, small_md, D.seqs, D.tyN, List.getElem?_cons_zero, List.getElem?_cons_succ, List.set_cons_zero, List.set_cons_succ, List.map_cons, List.map_nil, Option.bind_some, Option.map_some, true_and, and_true, and_assoc, startD, Bool.not_true, Bool.not_false, List.length_cons, List.length_nil, List.nil_append, List.cons_append, List.append_nil, List.replicate, Nat.reduceSub, Nat.reduceAdd, Nat.reduceLeDiff, wipeD, unw, freeAt, Option.getD_some, List.all_cons, List.all_nil, Bool.and_true, Bool.and_self, Slot.free, Nat.zero_sub, Nat.sub_zero, Nat.sub_self, Nat.reduceEqDiff, id_eq, decide_true, decide_false, eq_self,  td_cells, td_at, td_left, td_seed, td_salt, tp_at, tp_left, tp_salt, td_len]
    refine br_dec (fun h => ?_) (fun h => ?_)
    · simp -dsimp only [↓s_var, ↓s_c, ↓s_op, ↓s_test, ↓s_truth, ↓s_chain, ↓s_and, ↓s_or, ↓s_not, ↓s_andV, ↓s_orV, ↓s_notV, ↓s_if, ↓s_un, ↓s_nil, ↓s_cons, ↓s_cb, ↓s_call, ↓s_tup, ↓s_lst, ↓s_nopart, ↓s_part, ↓s_sl, ↓s_app, ↓s_items, ↓s_rng1, ↓s_rng2, ↓s_rng3, ↓s_next, ↓s_seq, ↓s_break, ↓s_cont, ↓s_drop, ↓s_ret, ↓s_retN, ↓s_ifS, ↓s_asg, ↓s_gNm, ↓s_gTup, ↓s_gNil, ↓s_gCons, ↓s_aug, ↓s_par, ↓s_for, ↓s_while, ↓s_lc, ↓s_lc2, ↓s_yes, ↓s_tvs0, ↓s_tvs1, ↓s_tvV, ↓s_tvS, ↓s_rvV, ↓s_rvS, ↓s_enum, ↓s_zip, ↓s_callIO, ↓fin_t, pins_nil, pins_p, pins_v, pins_un, lent1, slotL_s, ↓putB_1, ↓s_setI, ↓s_dput, ↓s_daug, ↓s_dnew, ↓s_disp, ↓s_flat0, ↓s_flat1, ↓s_never, ↓s_raise, ↓s_neverE, mkD, D.key, Option.map_some, dgetM, ↓br_t, ↓br_f, ↓s_fin0, ↓s_ref, ↓s_tupRg, ↓s_lstRg, ↓s_rg1, ↓s_rg2, hide, hideS, s_resV, s_resS, s_resL0, s_resL1, s_slotM, s_setM, s_frz, s_frzL, wD_some, got_v, got_p, ↓gset_un, ↓gset_v, vslot_v, fslot_v, asB_b, asI_i, asT_t, asL_l, hasL_l, one_1, two_2, int1_1, int2_2, int3_3, ix0, ix1, Slot.fr?, Slot.m?, Slot.put, opz_f1, o_iop, b_lt, o_addI, o_addS, o_addT, o_addL, o_mulI, o_mulT, o_mulL, o_ixL, o_ixT, o_ixW, o_ixC, o_ixS, o_slL, o_slT, o_slS, o_lenL, o_lenT, o_lenW, o_lenC, o_lenD, o_lenS, o_abs, o_intI, o_intB, o_str, o_list, o_tupL, o_tupT, o_isN, o_isNotN, o_isTy, o_neg, t_non, t_bl, t_int, t_str, t_lst, t_tup, t_wtu, t_dic, i_lst, i_tup, i_wtu, i_scr, i_str, q_lst, q_scr, q_tup, q_wtu, o_sort, o_inL, o_inT, o_eqI, o_neI, o_all, o_any, o_sum, o_max2, o_min2, o_eqB, o_neB, o_ixD, o_ixDi, p_str, p_int, s_frzD, hasD_md, small_md, D.seqs, D.tyN, List.getElem?_cons_zero, List.getElem?_cons_succ, List.set_cons_zero, List.set_cons_succ, List.map_cons, List.map_nil, Option.bind_some, Option.map_some, true_and, and_true, and_assoc, startD, Bool.not_true, Bool.not_false, List.length_cons, List.length_nil, List.nil_append, List.cons_append, List.append_nil, List.replicate, Nat.reduceSub, Nat.reduceAdd, Nat.reduceLeDiff, wipeD, unw, freeAt, Option.getD_some, List.all_cons, List.all_nil, Bool.and_true, Bool.and_self, Slot.free, Nat.zero_sub, Nat.sub_zero, Nat.sub_self, Nat.reduceEqDiff, id_eq, decide_true, decide_false, eq_self,  td_cells, td_at, td_left, td_seed, td_salt, tp_at, tp_left, tp_salt, td_len]
      refine ⟨by omega, cfd_r (by omega) (by omega), by decide, ?_⟩
      exact q _ _ (fmod_nn (by omega)) (fmod_lt (by omega)) ⟨cells, at', _, seed, salt, rfl, hc, ha, Int.fdiv_nonneg hl (by omega), hs0, hs1, hz⟩
    · simp -dsimp only [↓s_var, ↓s_c, ↓s_op, ↓s_test, ↓s_truth, ↓s_chain, ↓s_and, ↓s_or, ↓s_not, ↓s_andV, ↓s_orV, ↓s_notV, ↓s_if, ↓s_un, ↓s_nil, ↓s_cons, ↓s_cb, ↓s_call, ↓s_tup, ↓s_lst, ↓s_nopart, ↓s_part, ↓s_sl, ↓s_app, ↓s_items, ↓s_rng1, ↓s_rng2, ↓s_rng3, ↓s_next, ↓s_seq, ↓s_break, ↓s_cont, ↓s_drop, ↓s_ret, ↓s_retN, ↓s_ifS, ↓s_asg, ↓s_gNm, ↓s_gTup, ↓s_gNil, ↓s_gCons, ↓s_aug, ↓s_par, ↓s_for, ↓s_while, ↓s_lc, ↓s_lc2, ↓s_yes, ↓s_tvs0, ↓s_tvs1, ↓s_tvV, ↓s_tvS, ↓s_rvV, ↓s_rvS, ↓s_enum, ↓s_zip, ↓s_callIO, ↓fin_t, pins_nil, pins_p, pins_v, pins_un, lent1, slotL_s, ↓putB_1, ↓s_setI, ↓s_dput, ↓s_daug, ↓s_dnew, ↓s_disp, ↓s_flat0, ↓s_flat1, ↓s_never, ↓s_raise, ↓s_neverE, mkD, D.key, Option.map_some, dgetM, ↓br_t, ↓br_f, ↓s_fin0, ↓s_ref, ↓s_tupRg, ↓s_lstRg, ↓s_rg1, ↓s_rg2, hide, hideS, s_resV, s_resS, s_resL0, s_resL1, s_slotM, s_setM, s_frz, s_frzL, wD_some, got_v, got_p, ↓gset_un, ↓gset_v, vslot_v, fslot_v, asB_b, asI_i, asT_t, asL_l, hasL_l, one_1, two_2, int1_1, int2_2, int3_3, ix0, ix1, Slot.fr?, Slot.m?, Slot.put, opz_f1, o_iop, b_lt, o_addI, o_addS, o_addT, o_addL, o_mulI, o_mulT, o_mulL, o_ixL, o_ixT, o_ixW, o_ixC, o_ixS, o_slL, o_slT, o_slS, o_lenL, o_lenT, o_lenW, o_lenC, o_lenD, o_lenS, o_abs, o_intI, o_intB, o_str, o_list, o_tupL, o_tupT, o_isN, o_isNotN, o_isTy, o_neg, t_non, t_bl, t_int, t_str, t_lst, t_tup, t_wtu, t_dic, i_lst, i_tup, i_wtu, i_scr, i_str, q_lst, q_scr, q_tup, q_wtu, o_sort, o_inL, o_inT, o_eqI, o_neI, o_all, o_any, o_sum, o_max2, o_min2, o_eqB, o_neB, o_ixD, o_ixDi, p_str, p_int, s_frzD, hasD_md, small_md, D.seqs, D.tyN, List.getElem?_cons_zero, List.getElem?_cons_succ, List.set_cons_zero, List.set_cons_succ, List.map_cons, List.map_nil, Option.bind_some, Option.map_some, true_and, and_true, and_assoc, startD, Bool.not_true, Bool.not_false, List.length_cons, List.length_nil, List.nil_append, List.cons_append, List.append_nil, List.replicate, Nat.reduceSub, Nat.reduceAdd, Nat.reduceLeDiff, wipeD, unw, freeAt, Option.getD_some, List.all_cons, List.all_nil, Bool.and_true, Bool.and_self, Slot.free, Nat.zero_sub, Nat.sub_zero, Nat.sub_self, Nat.reduceEqDiff, id_eq, decide_true, decide_false, eq_self,  td_cells, td_at, td_left, td_seed, td_salt, tp_at, tp_left, tp_salt, td_len]
      have p0 := @fmod_nn (seed * 48271 + (salt + 1) * 69621) 2147483647 (by decide)
      have p1 := @fmod_lt (seed * 48271 + (salt + 1) * 69621) 2147483647 (by decide)
      exact ⟨by decide, cmul_r (by decide) (by decide), cmul_r (by decide) (by decide), by decide, cmul_r (by omega) (by omega), cmul_r (by decide) (by decide), by decide, by omega,
        q _ _ (fmod_nn (by omega)) (fmod_lt (by omega)) ⟨cells, at', left, seed, salt + 1, rfl, hc, ha, hl, hs0, hs1, by omega⟩⟩

/-! ### check_reads -/
def c_check_reads (IP : Addr) : CT
  | [.fz (.int p), .fz (.tup rs)], R, X => ∃ ns : List Int, rs = ns.map .int ∧ ns.length ≤ 1000 ∧ (okR p ns → R (.fz .non) []) ∧ (¬ okR p ns → X (.ref IP) none [])
  | _, _, _ => False
theorem sc_check_reads : FnScope N_check_reads ["period", "reads"] (defScope s_check_reads) := ⟨rfl, rfl, rfl, by decide +kernel, rfl, by decide +kernel, by decide +kernel⟩
theorem ok_check_reads (T : Txt K mg C_InvalidPlan) (F : TopFn K mg "check_reads" s_check_reads ["period", "reads"]) : FnAt P w K mg base TB 1 "check_reads" ["period", "reads"] false (c_check_reads C_InvalidPlan) := by
  have nd := sc_check_reads.nd
  refine fnAt F sc_check_reads (fun ms R X h => by unfold c_check_reads at h; split at h <;> first | rfl | exact h.elim) (fun h => by cases h) fun f cdv A outer s H E x0 Xd hr => ?_
  refine ⟨_, _, (dss_cons (ds_if (DW.pt (dw_or (dt_not (dt_chain op_le od_le op_le od_le de_int (dv 0) (de_gint T.c_MOST_PERIOD))) (dw_or1 (dt_not (dt_chain op_le od_le op_le od_le de_int (de_callB (call_lenA rfl) cd_len (by rfl) T.n_len bo_len (da_cons (dv 1) da_nil)) (de_gint T.c_MOST_READS))))))
      (dss_one (ds_raiseC T.x_InvalidPlan rfl takesD rfl))
      dss_nil)
      (dss_one (ds_if (DW.pt (dw_or (dt_not (dt_truth (de_callB (call_allA rfl rfl) cd_all (by rfl) T.n_all bo_all (da_cons (de_lc (own := [("one", 2), ("other", 3)]) rfl nd (di_zip rfl (by rfl) T.n_zip (da_cons (de_sl rfl (dv 1) do_none (do_some (de_neg de_int))) (da_cons (de_sl rfl (dv 1) (do_some de_int) do_none) da_nil))) (blkOk_by (N := N_check_reads) (sc := defScope s_check_reads) (by decide +kernel)) (GOnly.tup (GOnlys.cons GMono.name (GMonos.cons GMono.name GMonos.nil) (GOnly.name (by decide)) (GOnlys.cons GMono.name GMonos.nil (GOnly.name (by decide)) GOnlys.nil))) (GMono.tup (GMonos.cons GMono.name (GMonos.cons GMono.name GMonos.nil))) (fun _ _ _ _ _ => (dg_tup (n := 2) rfl rfl (dgs_cons (dg_name (i := 2) nd rfl (by first | exact Or.inl rfl | exact Or.inr rfl)) (dgs_cons (dg_name (i := 3) nd rfl (by first | exact Or.inl rfl | exact Or.inr rfl)) dgs_nil)))) (fun _ _ _ _ _ => dts_nil) (fun _ _ _ _ _ => (de_cmp op_lt od_lt (dv 2) (dv 3) (nomark _)))) da_nil)))) (dw_or (dt_not (dt_cmp op_le od_le de_int (de_ix rfl (hu1 hr) (dv 1) de_int) (nomark _))) (dw_or1 (dt_cmp op_ge od_ge (de_ix rfl (hu1 hr) (dv 1) (de_neg de_int)) (dv 0) (nomark _))))))
      (dss_one (ds_raiseC T.x_InvalidPlan rfl takesD rfl))
      dss_nil))), ?_⟩
  intro ms Rd h
  unfold c_check_reads at h
  split at h <;> first | exact (show False from h).elim | skip
  rename_i p rs
  obtain ⟨ns, rfl, h1, h2, h3⟩ := h
  repeat' (first | refine br_dec (fun h => ?_) (fun h => ?_) | refine br_ndec (fun h => ?_) (fun h => ?_) | simp -dsimp only [↓s_var, ↓s_c, ↓s_op, ↓s_test, ↓s_truth, ↓s_chain, ↓s_and, ↓s_or, ↓s_not, ↓s_andV, ↓s_orV, ↓s_notV, ↓s_if, ↓s_un, ↓s_nil, ↓s_cons, ↓s_cb, ↓s_call, ↓s_tup, ↓s_lst, ↓s_nopart, ↓s_part, ↓s_sl, ↓s_app, ↓s_items, ↓s_rng1, ↓s_rng2, ↓s_rng3, ↓s_next, ↓s_seq, ↓s_break, ↓s_cont, ↓s_drop, ↓s_ret, ↓s_retN, ↓s_ifS, ↓s_asg, ↓s_gNm, ↓s_gTup, ↓s_gNil, ↓s_gCons, ↓s_aug, ↓s_par, ↓s_for, ↓s_while, ↓s_lc, ↓s_lc2, ↓s_yes, ↓s_tvs0, ↓s_tvs1, ↓s_tvV, ↓s_tvS, ↓s_rvV, ↓s_rvS, ↓s_enum, ↓s_zip, ↓s_callIO, ↓fin_t, pins_nil, pins_p, pins_v, pins_un, lent1, slotL_s, ↓putB_1, ↓s_setI, ↓s_dput, ↓s_daug, ↓s_dnew, ↓s_disp, ↓s_flat0, ↓s_flat1, ↓s_never, ↓s_raise, ↓s_neverE, mkD, D.key, Option.map_some, dgetM, ↓br_t, ↓br_f, ↓s_fin0, ↓s_ref, ↓s_tupRg, ↓s_lstRg, ↓s_rg1, ↓s_rg2, hide, hideS, s_resV, s_resS, s_resL0, s_resL1, s_slotM, s_setM, s_frz, s_frzL, wD_some, got_v, got_p, ↓gset_un, ↓gset_v, vslot_v, fslot_v, asB_b, asI_i, asT_t, asL_l, hasL_l, one_1, two_2, int1_1, int2_2, int3_3, ix0, ix1, Slot.fr?, Slot.m?, Slot.put, opz_f1, o_iop, b_lt, o_addI, o_addS, o_addT, o_addL, o_mulI, o_mulT, o_mulL, o_ixL, o_ixT, o_ixW, o_ixC, o_ixS, o_slL, o_slT, o_slS, o_lenL, o_lenT, o_lenW, o_lenC, o_lenD, o_lenS, o_abs, o_intI, o_intB, o_str, o_list, o_tupL, o_tupT, o_isN, o_isNotN, o_isTy, o_neg, t_non, t_bl, t_int, t_str, t_lst, t_tup, t_wtu, t_dic, i_lst, i_tup, i_wtu, i_scr, i_str, q_lst, q_scr, q_tup, q_wtu, o_sort, o_inL, o_inT, o_eqI, o_neI, o_all, o_any, o_sum, o_max2, o_min2, o_eqB, o_neB, o_ixD, o_ixDi, p_str, p_int, s_frzD, hasD_md, small_md, D.seqs, D.tyN, List.getElem?_cons_zero, List.getElem?_cons_succ, List.set_cons_zero, List.set_cons_succ, List.map_cons, List.map_nil, Option.bind_some, Option.map_some, true_and, and_true, and_assoc, startD, Bool.not_true, Bool.not_false, List.length_cons, List.length_nil, List.nil_append, List.cons_append, List.append_nil, List.replicate, Nat.reduceSub, Nat.reduceAdd, Nat.reduceLeDiff, wipeD, unw, freeAt, Option.getD_some, List.all_cons, List.all_nil, Bool.and_true, Bool.and_self, Slot.free, Nat.zero_sub, Nat.sub_zero, Nat.sub_self, Nat.reduceEqDiff, id_eq, decide_true, decide_false, eq_self,  List.length_map])
  all_goals try exact h3 fun ok => by have := ok.1; have := ok.2.1; omega
  have g3 : (1 : Int) ≤ (ns.length : Int) := by assumption
  have hne : ns ≠ [] := fun e => by subst e; simp at g3
  obtain ⟨f, hf⟩ : ∃ a, ns.head? = some a := by cases ns with | nil => exact absurd rfl hne | cons a r => exact ⟨a, rfl⟩
  obtain ⟨l, hl⟩ : ∃ a, ns.getLast? = some a := ⟨_, List.getLast?_eq_getLast hne⟩
  have h0 : atI (ns.map D.int) 0 = some (.int f) := DL.atI_nat (k := 0) (by rw [List.getElem?_map, ← List.head?_eq_getElem?, hf]; rfl)
  have h9 : atI (ns.map D.int) (-1) = some (.int l) := atI_last (by rw [List.getLast?_map, hl]; rfl)
  rw [cut_last, cut_from1, ← List.map_dropLast, ← List.map_drop, zip_map]
  refine lcR_mapE (fun s => s = [.v (.fz (.int p)), .v (.fz (.tup (ns.map .int))), .un, .un]) (fun p => .bl (decide (p.1 < p.2))) (by simp; unfold sizeLine; omega) rfl ?_ ?_
  · rintro ⟨x, y⟩ hx s rfl R hR
    simp -dsimp only [↓s_var, ↓s_c, ↓s_op, ↓s_test, ↓s_truth, ↓s_chain, ↓s_and, ↓s_or, ↓s_not, ↓s_andV, ↓s_orV, ↓s_notV, ↓s_if, ↓s_un, ↓s_nil, ↓s_cons, ↓s_cb, ↓s_call, ↓s_tup, ↓s_lst, ↓s_nopart, ↓s_part, ↓s_sl, ↓s_app, ↓s_items, ↓s_rng1, ↓s_rng2, ↓s_rng3, ↓s_next, ↓s_seq, ↓s_break, ↓s_cont, ↓s_drop, ↓s_ret, ↓s_retN, ↓s_ifS, ↓s_asg, ↓s_gNm, ↓s_gTup, ↓s_gNil, ↓s_gCons, ↓s_aug, ↓s_par, ↓s_for, ↓s_while, ↓s_lc, ↓s_lc2, ↓s_yes, ↓s_tvs0, ↓s_tvs1, ↓s_tvV, ↓s_tvS, ↓s_rvV, ↓s_rvS, ↓s_enum, ↓s_zip, ↓s_callIO, ↓fin_t, pins_nil, pins_p, pins_v, pins_un, lent1, slotL_s, ↓putB_1, ↓s_setI, ↓s_dput, ↓s_daug, ↓s_dnew, ↓s_disp, ↓s_flat0, ↓s_flat1, ↓s_never, ↓s_raise, ↓s_neverE, mkD, D.key, Option.map_some, dgetM, ↓br_t, ↓br_f, ↓s_fin0, ↓s_ref, ↓s_tupRg, ↓s_lstRg, ↓s_rg1, ↓s_rg2, hide, hideS, s_resV, s_resS, s_resL0, s_resL1, s_slotM, s_setM, s_frz, s_frzL, wD_some, got_v, got_p, ↓gset_un, ↓gset_v, vslot_v, fslot_v, asB_b, asI_i, asT_t, asL_l, hasL_l, one_1, two_2, int1_1, int2_2, int3_3, ix0, ix1, Slot.fr?, Slot.m?, Slot.put, opz_f1, o_iop, b_lt, o_addI, o_addS, o_addT, o_addL, o_mulI, o_mulT, o_mulL, o_ixL, o_ixT, o_ixW, o_ixC, o_ixS, o_slL, o_slT, o_slS, o_lenL, o_lenT, o_lenW, o_lenC, o_lenD, o_lenS, o_abs, o_intI, o_intB, o_str, o_list, o_tupL, o_tupT, o_isN, o_isNotN, o_isTy, o_neg, t_non, t_bl, t_int, t_str, t_lst, t_tup, t_wtu, t_dic, i_lst, i_tup, i_wtu, i_scr, i_str, q_lst, q_scr, q_tup, q_wtu, o_sort, o_inL, o_inT, o_eqI, o_neI, o_all, o_any, o_sum, o_max2, o_min2, o_eqB, o_neB, o_ixD, o_ixDi, p_str, p_int, s_frzD, hasD_md, small_md, D.seqs, D.tyN, List.getElem?_cons_zero, List.getElem?_cons_succ, List.set_cons_zero, List.set_cons_succ, List.map_cons, List.map_nil, Option.bind_some, Option.map_some, true_and, and_true, and_assoc, startD, Bool.not_true, Bool.not_false, List.length_cons, List.length_nil, List.nil_append, List.cons_append, List.append_nil, List.replicate, Nat.reduceSub, Nat.reduceAdd, Nat.reduceLeDiff, wipeD, unw, freeAt, Option.getD_some, List.all_cons, List.all_nil, Bool.and_true, Bool.and_self, Slot.free, Nat.zero_sub, Nat.sub_zero, Nat.sub_self, Nat.reduceEqDiff, id_eq, decide_true, decide_false, eq_self]
    exact hR _ _ rfl rfl
  · rintro s' rfl
    have key : okR p ns ↔ (List.map (fun x => decide (x.fst < x.snd)) (ns.dropLast.zip (List.drop 1 ns))).all id = true ∧ 0 ≤ f ∧ l < p := by
      rw [List.all_map]
      simp only [Function.comp_def, id]
      rw [asc_iff]
      constructor
      · rintro ⟨_, _, a, b⟩
        exact ⟨a, (b f (List.mem_of_head? hf)).1, (b l (List.mem_of_getLast? hl)).2⟩
      · rintro ⟨a, b, c⟩
        refine ⟨⟨by omega, by omega⟩, ⟨by omega, by omega⟩, a, fun n hn => ?_⟩
        have := asc_ends a hf hl n hn
        omega
    simp -dsimp only [↓s_var, ↓s_c, ↓s_op, ↓s_test, ↓s_truth, ↓s_chain, ↓s_and, ↓s_or, ↓s_not, ↓s_andV, ↓s_orV, ↓s_notV, ↓s_if, ↓s_un, ↓s_nil, ↓s_cons, ↓s_cb, ↓s_call, ↓s_tup, ↓s_lst, ↓s_nopart, ↓s_part, ↓s_sl, ↓s_app, ↓s_items, ↓s_rng1, ↓s_rng2, ↓s_rng3, ↓s_next, ↓s_seq, ↓s_break, ↓s_cont, ↓s_drop, ↓s_ret, ↓s_retN, ↓s_ifS, ↓s_asg, ↓s_gNm, ↓s_gTup, ↓s_gNil, ↓s_gCons, ↓s_aug, ↓s_par, ↓s_for, ↓s_while, ↓s_lc, ↓s_lc2, ↓s_yes, ↓s_tvs0, ↓s_tvs1, ↓s_tvV, ↓s_tvS, ↓s_rvV, ↓s_rvS, ↓s_enum, ↓s_zip, ↓s_callIO, ↓fin_t, pins_nil, pins_p, pins_v, pins_un, lent1, slotL_s, ↓putB_1, ↓s_setI, ↓s_dput, ↓s_daug, ↓s_dnew, ↓s_disp, ↓s_flat0, ↓s_flat1, ↓s_never, ↓s_raise, ↓s_neverE, mkD, D.key, Option.map_some, dgetM, ↓br_t, ↓br_f, ↓s_fin0, ↓s_ref, ↓s_tupRg, ↓s_lstRg, ↓s_rg1, ↓s_rg2, hide, hideS, s_resV, s_resS, s_resL0, s_resL1, s_slotM, s_setM, s_frz, s_frzL, wD_some, got_v, got_p, ↓gset_un, ↓gset_v, vslot_v, fslot_v, asB_b, asI_i, asT_t, asL_l, hasL_l, one_1, two_2, int1_1, int2_2, int3_3, ix0, ix1, Slot.fr?, Slot.m?, Slot.put, opz_f1, o_iop, b_lt, o_addI, o_addS, o_addT, o_addL, o_mulI, o_mulT, o_mulL, o_ixL, o_ixT, o_ixW, o_ixC, o_ixS, o_slL, o_slT, o_slS, o_lenL, o_lenT, o_lenW, o_lenC, o_lenD, o_lenS, o_abs, o_intI, o_intB, o_str, o_list, o_tupL, o_tupT, o_isN, o_isNotN, o_isTy, o_neg, t_non, t_bl, t_int, t_str, t_lst, t_tup, t_wtu, t_dic, i_lst, i_tup, i_wtu, i_scr, i_str, q_lst, q_scr, q_tup, q_wtu, o_sort, o_inL, o_inT, o_eqI, o_neI, o_all, o_any, o_sum, o_max2, o_min2, o_eqB, o_neB, o_ixD, o_ixDi, p_str, p_int, s_frzD, hasD_md, small_md, D.seqs, D.tyN, List.getElem?_cons_zero, List.getElem?_cons_succ, List.set_cons_zero, List.set_cons_succ, List.map_cons, List.map_nil, Option.bind_some, Option.map_some, true_and, and_true, and_assoc, startD, Bool.not_true, Bool.not_false, List.length_cons, List.length_nil, List.nil_append, List.cons_append, List.append_nil, List.replicate, Nat.reduceSub, Nat.reduceAdd, Nat.reduceLeDiff, wipeD, unw, freeAt, Option.getD_some, List.all_cons, List.all_nil, Bool.and_true, Bool.and_self, Slot.free, Nat.zero_sub, Nat.sub_zero, Nat.sub_self, Nat.reduceEqDiff, id_eq, decide_true, decide_false, eq_self]
    refine wD_of (boolL_mapf _ _) ?_
    simp -dsimp only [↓s_var, ↓s_c, ↓s_op, ↓s_test, ↓s_truth, ↓s_chain, ↓s_and, ↓s_or, ↓s_not, ↓s_andV, ↓s_orV, ↓s_notV, ↓s_if, ↓s_un, ↓s_nil, ↓s_cons, ↓s_cb, ↓s_call, ↓s_tup, ↓s_lst, ↓s_nopart, ↓s_part, ↓s_sl, ↓s_app, ↓s_items, ↓s_rng1, ↓s_rng2, ↓s_rng3, ↓s_next, ↓s_seq, ↓s_break, ↓s_cont, ↓s_drop, ↓s_ret, ↓s_retN, ↓s_ifS, ↓s_asg, ↓s_gNm, ↓s_gTup, ↓s_gNil, ↓s_gCons, ↓s_aug, ↓s_par, ↓s_for, ↓s_while, ↓s_lc, ↓s_lc2, ↓s_yes, ↓s_tvs0, ↓s_tvs1, ↓s_tvV, ↓s_tvS, ↓s_rvV, ↓s_rvS, ↓s_enum, ↓s_zip, ↓s_callIO, ↓fin_t, pins_nil, pins_p, pins_v, pins_un, lent1, slotL_s, ↓putB_1, ↓s_setI, ↓s_dput, ↓s_daug, ↓s_dnew, ↓s_disp, ↓s_flat0, ↓s_flat1, ↓s_never, ↓s_raise, ↓s_neverE, mkD, D.key, Option.map_some, dgetM, ↓br_t, ↓br_f, ↓s_fin0, ↓s_ref, ↓s_tupRg, ↓s_lstRg, ↓s_rg1, ↓s_rg2, hide, hideS, s_resV, s_resS, s_resL0, s_resL1, s_slotM, s_setM, s_frz, s_frzL, wD_some, got_v, got_p, ↓gset_un, ↓gset_v, vslot_v, fslot_v, asB_b, asI_i, asT_t, asL_l, hasL_l, one_1, two_2, int1_1, int2_2, int3_3, ix0, ix1, Slot.fr?, Slot.m?, Slot.put, opz_f1, o_iop, b_lt, o_addI, o_addS, o_addT, o_addL, o_mulI, o_mulT, o_mulL, o_ixL, o_ixT, o_ixW, o_ixC, o_ixS, o_slL, o_slT, o_slS, o_lenL, o_lenT, o_lenW, o_lenC, o_lenD, o_lenS, o_abs, o_intI, o_intB, o_str, o_list, o_tupL, o_tupT, o_isN, o_isNotN, o_isTy, o_neg, t_non, t_bl, t_int, t_str, t_lst, t_tup, t_wtu, t_dic, i_lst, i_tup, i_wtu, i_scr, i_str, q_lst, q_scr, q_tup, q_wtu, o_sort, o_inL, o_inT, o_eqI, o_neI, o_all, o_any, o_sum, o_max2, o_min2, o_eqB, o_neB, o_ixD, o_ixDi, p_str, p_int, s_frzD, hasD_md, small_md, D.seqs, D.tyN, List.getElem?_cons_zero, List.getElem?_cons_succ, List.set_cons_zero, List.set_cons_succ, List.map_cons, List.map_nil, Option.bind_some, Option.map_some, true_and, and_true, and_assoc, startD, Bool.not_true, Bool.not_false, List.length_cons, List.length_nil, List.nil_append, List.cons_append, List.append_nil, List.replicate, Nat.reduceSub, Nat.reduceAdd, Nat.reduceLeDiff, wipeD, unw, freeAt, Option.getD_some, List.all_cons, List.all_nil, Bool.and_true, Bool.and_self, Slot.free, Nat.zero_sub, Nat.sub_zero, Nat.sub_self, Nat.reduceEqDiff, id_eq, decide_true, decide_false, eq_self]
    refine br_of (fun hh => ?_) (fun hh => ?_)
    · simp -dsimp only [↓s_var, ↓s_c, ↓s_op, ↓s_test, ↓s_truth, ↓s_chain, ↓s_and, ↓s_or, ↓s_not, ↓s_andV, ↓s_orV, ↓s_notV, ↓s_if, ↓s_un, ↓s_nil, ↓s_cons, ↓s_cb, ↓s_call, ↓s_tup, ↓s_lst, ↓s_nopart, ↓s_part, ↓s_sl, ↓s_app, ↓s_items, ↓s_rng1, ↓s_rng2, ↓s_rng3, ↓s_next, ↓s_seq, ↓s_break, ↓s_cont, ↓s_drop, ↓s_ret, ↓s_retN, ↓s_ifS, ↓s_asg, ↓s_gNm, ↓s_gTup, ↓s_gNil, ↓s_gCons, ↓s_aug, ↓s_par, ↓s_for, ↓s_while, ↓s_lc, ↓s_lc2, ↓s_yes, ↓s_tvs0, ↓s_tvs1, ↓s_tvV, ↓s_tvS, ↓s_rvV, ↓s_rvS, ↓s_enum, ↓s_zip, ↓s_callIO, ↓fin_t, pins_nil, pins_p, pins_v, pins_un, lent1, slotL_s, ↓putB_1, ↓s_setI, ↓s_dput, ↓s_daug, ↓s_dnew, ↓s_disp, ↓s_flat0, ↓s_flat1, ↓s_never, ↓s_raise, ↓s_neverE, mkD, D.key, Option.map_some, dgetM, ↓br_t, ↓br_f, ↓s_fin0, ↓s_ref, ↓s_tupRg, ↓s_lstRg, ↓s_rg1, ↓s_rg2, hide, hideS, s_resV, s_resS, s_resL0, s_resL1, s_slotM, s_setM, s_frz, s_frzL, wD_some, got_v, got_p, ↓gset_un, ↓gset_v, vslot_v, fslot_v, asB_b, asI_i, asT_t, asL_l, hasL_l, one_1, two_2, int1_1, int2_2, int3_3, ix0, ix1, Slot.fr?, Slot.m?, Slot.put, opz_f1, o_iop, b_lt, o_addI, o_addS, o_addT, o_addL, o_mulI, o_mulT, o_mulL, o_ixL, o_ixT, o_ixW, o_ixC, o_ixS, o_slL, o_slT, o_slS, o_lenL, o_lenT, o_lenW, o_lenC, o_lenD, o_lenS, o_abs, o_intI, o_intB, o_str, o_list, o_tupL, o_tupT, o_isN, o_isNotN, o_isTy, o_neg, t_non, t_bl, t_int, t_str, t_lst, t_tup, t_wtu, t_dic, i_lst, i_tup, i_wtu, i_scr, i_str, q_lst, q_scr, q_tup, q_wtu, o_sort, o_inL, o_inT, o_eqI, o_neI, o_all, o_any, o_sum, o_max2, o_min2, o_eqB, o_neB, o_ixD, o_ixDi, p_str, p_int, s_frzD, hasD_md, small_md, D.seqs, D.tyN, List.getElem?_cons_zero, List.getElem?_cons_succ, List.set_cons_zero, List.set_cons_succ, List.map_cons, List.map_nil, Option.bind_some, Option.map_some, true_and, and_true, and_assoc, startD, Bool.not_true, Bool.not_false, List.length_cons, List.length_nil, List.nil_append, List.cons_append, List.append_nil, List.replicate, Nat.reduceSub, Nat.reduceAdd, Nat.reduceLeDiff, wipeD, unw, freeAt, Option.getD_some, List.all_cons, List.all_nil, Bool.and_true, Bool.and_self, Slot.free, Nat.zero_sub, Nat.sub_zero, Nat.sub_self, Nat.reduceEqDiff, id_eq, decide_true, decide_false, eq_self]
      exact h3 fun ok => by rw [(key.mp ok).1] at hh; simp at hh
    · simp only [Bool.not_eq_false'] at hh
      repeat' (first | refine br_dec (fun h => ?_) (fun h => ?_) | refine br_ndec (fun h => ?_) (fun h => ?_) | simp -dsimp only [↓s_var, ↓s_c, ↓s_op, ↓s_test, ↓s_truth, ↓s_chain, ↓s_and, ↓s_or, ↓s_not, ↓s_andV, ↓s_orV, ↓s_notV, ↓s_if, ↓s_un, ↓s_nil, ↓s_cons, ↓s_cb, ↓s_call, ↓s_tup, ↓s_lst, ↓s_nopart, ↓s_part, ↓s_sl, ↓s_app, ↓s_items, ↓s_rng1, ↓s_rng2, ↓s_rng3, ↓s_next, ↓s_seq, ↓s_break, ↓s_cont, ↓s_drop, ↓s_ret, ↓s_retN, ↓s_ifS, ↓s_asg, ↓s_gNm, ↓s_gTup, ↓s_gNil, ↓s_gCons, ↓s_aug, ↓s_par, ↓s_for, ↓s_while, ↓s_lc, ↓s_lc2, ↓s_yes, ↓s_tvs0, ↓s_tvs1, ↓s_tvV, ↓s_tvS, ↓s_rvV, ↓s_rvS, ↓s_enum, ↓s_zip, ↓s_callIO, ↓fin_t, pins_nil, pins_p, pins_v, pins_un, lent1, slotL_s, ↓putB_1, ↓s_setI, ↓s_dput, ↓s_daug, ↓s_dnew, ↓s_disp, ↓s_flat0, ↓s_flat1, ↓s_never, ↓s_raise, ↓s_neverE, mkD, D.key, Option.map_some, dgetM, ↓br_t, ↓br_f, ↓s_fin0, ↓s_ref, ↓s_tupRg, ↓s_lstRg, ↓s_rg1, ↓s_rg2, hide, hideS, s_resV, s_resS, s_resL0, s_resL1, s_slotM, s_setM, s_frz, s_frzL, wD_some, got_v, got_p, ↓gset_un, ↓gset_v, vslot_v, fslot_v, asB_b, asI_i, asT_t, asL_l, hasL_l, one_1, two_2, int1_1, int2_2, int3_3, ix0, ix1, Slot.fr?, Slot.m?, Slot.put, opz_f1, o_iop, b_lt, o_addI, o_addS, o_addT, o_addL, o_mulI, o_mulT, o_mulL, o_ixL, o_ixT, o_ixW, o_ixC, o_ixS, o_slL, o_slT, o_slS, o_lenL, o_lenT, o_lenW, o_lenC, o_lenD, o_lenS, o_abs, o_intI, o_intB, o_str, o_list, o_tupL, o_tupT, o_isN, o_isNotN, o_isTy, o_neg, t_non, t_bl, t_int, t_str, t_lst, t_tup, t_wtu, t_dic, i_lst, i_tup, i_wtu, i_scr, i_str, q_lst, q_scr, q_tup, q_wtu, o_sort, o_inL, o_inT, o_eqI, o_neI, o_all, o_any, o_sum, o_max2, o_min2, o_eqB, o_neB, o_ixD, o_ixDi, p_str, p_int, s_frzD, hasD_md, small_md, D.seqs, D.tyN, List.getElem?_cons_zero, List.getElem?_cons_succ, List.set_cons_zero, List.set_cons_succ, List.map_cons, List.map_nil, Option.bind_some, Option.map_some, true_and, and_true, and_assoc, startD, Bool.not_true, Bool.not_false, List.length_cons, List.length_nil, List.nil_append, List.cons_append, List.append_nil, List.replicate, Nat.reduceSub, Nat.reduceAdd, Nat.reduceLeDiff, wipeD, unw, freeAt, Option.getD_some, List.all_cons, List.all_nil, Bool.and_true, Bool.and_self, Slot.free, Nat.zero_sub, Nat.sub_zero, Nat.sub_self, Nat.reduceEqDiff, id_eq, decide_true, decide_false, eq_self,  h0, h9])
      all_goals first | exact h3 fun ok => by have := key.mp ok; omega | exact h2 (key.mpr ⟨hh, by omega, by omega⟩)
/-! ### next_read -/
def c_next_read (IP : Addr) : CT
  | [.fz (.int p), .fz (.tup rs), .fz (.int m)], R, X => ∃ ns : List Int, rs = ns.map .int ∧ ns.length ≤ 1000 ∧ (okR p ns → R (.fz (.int (nx p ns m))) []) ∧ (¬ okR p ns → X (.ref IP) none [])
  | _, _, _ => False
theorem sc_next_read : FnScope N_next_read ["period", "reads", "moment"] (defScope s_next_read) := ⟨rfl, rfl, rfl, by decide +kernel, rfl, by decide +kernel, by decide +kernel⟩
theorem ok_next_read (T : Txt K mg C_InvalidPlan) (G_check_reads : FnAt P w K mg base TB 1 "check_reads" ["period", "reads"] false (c_check_reads C_InvalidPlan)) (F : TopFn K mg "next_read" s_next_read ["period", "reads", "moment"]) : FnAt P w K mg base TB 2 "next_read" ["period", "reads", "moment"] false (c_next_read C_InvalidPlan) := by
  have nd := sc_next_read.nd
  refine fnAt F sc_next_read (fun ms R X h => by unfold c_next_read at h; split at h <;> first | rfl | exact h.elim) (fun h => by cases h) fun f cdv A outer s H E x0 Xd hr => ?_
  refine ⟨_, _, (dss_cons (ds_expr (de_callN G_check_reads hr rfl rfl takesD (da_cons (dv 0) (da_cons (dv 1) da_nil))))
      (dss_cons (ds_set (i := 3) nd rfl (by first | exact Or.inl rfl | exact Or.inr rfl) (de_op op_fdivA od_fdiv (dv 2) (dv 0)))
      (dss_cons (ds_for passD rfl (di_any rfl (de_tup (da_cons (dv 3) (da_cons (de_op (op_addA rfl) od_add (dv 3) de_int) da_nil)))) (dg_name (i := 4) nd rfl (by first | exact Or.inl rfl | exact Or.inr rfl))
      (dss_one (ds_for passD rfl (di_any rfl (dv 1)) (dg_name (i := 5) nd rfl (by first | exact Or.inl rfl | exact Or.inr rfl))
      (dss_one (ds_if (dt_cmp op_ge od_ge (de_op (op_addA rfl) od_add (de_op (op_mulA rfl) od_mul (dv 4) (dv 0)) (dv 5)) (dv 2) (nomark _))
      (dss_one (ds_ret (de_op (op_addA rfl) od_add (de_op (op_mulA rfl) od_mul (dv 4) (dv 0)) (dv 5))))
      dss_nil)))))
      (dss_one (ds_raiseC T.x_InvalidPlan rfl takesD rfl))))), ?_⟩
  intro ms Rd h
  unfold c_next_read at h
  split at h <;> first | exact (show False from h).elim | skip
  rename_i p rs m
  obtain ⟨ns, rfl, h1, h2, h3⟩ := h
  simp -dsimp only [↓s_var, ↓s_c, ↓s_op, ↓s_test, ↓s_truth, ↓s_chain, ↓s_and, ↓s_or, ↓s_not, ↓s_andV, ↓s_orV, ↓s_notV, ↓s_if, ↓s_un, ↓s_nil, ↓s_cons, ↓s_cb, ↓s_call, ↓s_tup, ↓s_lst, ↓s_nopart, ↓s_part, ↓s_sl, ↓s_app, ↓s_items, ↓s_rng1, ↓s_rng2, ↓s_rng3, ↓s_next, ↓s_seq, ↓s_break, ↓s_cont, ↓s_drop, ↓s_ret, ↓s_retN, ↓s_ifS, ↓s_asg, ↓s_gNm, ↓s_gTup, ↓s_gNil, ↓s_gCons, ↓s_aug, ↓s_par, ↓s_for, ↓s_while, ↓s_lc, ↓s_lc2, ↓s_yes, ↓s_tvs0, ↓s_tvs1, ↓s_tvV, ↓s_tvS, ↓s_rvV, ↓s_rvS, ↓s_enum, ↓s_zip, ↓s_callIO, ↓fin_t, pins_nil, pins_p, pins_v, pins_un, lent1, slotL_s, ↓putB_1, ↓s_setI, ↓s_dput, ↓s_daug, ↓s_dnew, ↓s_disp, ↓s_flat0, ↓s_flat1, ↓s_never, ↓s_raise, ↓s_neverE, mkD, D.key, Option.map_some, dgetM, ↓br_t, ↓br_f, ↓s_fin0, ↓s_ref, ↓s_tupRg, ↓s_lstRg, ↓s_rg1, ↓s_rg2, hide, hideS, s_resV, s_resS, s_resL0, s_resL1, s_slotM, s_setM, s_frz, s_frzL, wD_some, got_v, got_p, ↓gset_un, ↓gset_v, vslot_v, fslot_v, asB_b, asI_i, asT_t, asL_l, hasL_l, one_1, two_2, int1_1, int2_2, int3_3, ix0, ix1, Slot.fr?, Slot.m?, Slot.put, opz_f1, o_iop, b_lt, o_addI, o_addS, o_addT, o_addL, o_mulI, o_mulT, o_mulL, o_ixL, o_ixT, o_ixW, o_ixC, o_ixS, o_slL, o_slT, o_slS, o_lenL, o_lenT, o_lenW, o_lenC, o_lenD, o_lenS, o_abs, o_intI, o_intB, o_str, o_list, o_tupL, o_tupT, o_isN, o_isNotN, o_isTy, o_neg, t_non, t_bl, t_int, t_str, t_lst, t_tup, t_wtu, t_dic, i_lst, i_tup, i_wtu, i_scr, i_str, q_lst, q_scr, q_tup, q_wtu, o_sort, o_inL, o_inT, o_eqI, o_neI, o_all, o_any, o_sum, o_max2, o_min2, o_eqB, o_neB, o_ixD, o_ixDi, p_str, p_int, s_frzD, hasD_md, small_md, D.seqs, D.tyN, List.getElem?_cons_zero, List.getElem?_cons_succ, List.set_cons_zero, List.set_cons_succ, List.map_cons, List.map_nil, Option.bind_some, Option.map_some, true_and, and_true, and_assoc, startD, Bool.not_true, Bool.not_false, List.length_cons, List.length_nil, List.nil_append, List.cons_append, List.append_nil, List.replicate, Nat.reduceSub, Nat.reduceAdd, Nat.reduceLeDiff, wipeD, unw, freeAt, Option.getD_some, List.all_cons, List.all_nil, Bool.and_true, Bool.and_self, Slot.free, Nat.zero_sub, Nat.sub_zero, Nat.sub_self, Nat.reduceEqDiff, id_eq, decide_true, decide_false, eq_self, c_check_reads]
  refine ⟨ns, rfl, h1, fun ok => ?_, h3⟩
  have hp := ok.1
  have hne := ok.n.2.1
  have efd : m.fdiv p = m / p := Int.fdiv_eq_ediv_of_nonneg _ (by omega)
  try simp -dsimp only [↓s_var, ↓s_c, ↓s_op, ↓s_test, ↓s_truth, ↓s_chain, ↓s_and, ↓s_or, ↓s_not, ↓s_andV, ↓s_orV, ↓s_notV, ↓s_if, ↓s_un, ↓s_nil, ↓s_cons, ↓s_cb, ↓s_call, ↓s_tup, ↓s_lst, ↓s_nopart, ↓s_part, ↓s_sl, ↓s_app, ↓s_items, ↓s_rng1, ↓s_rng2, ↓s_rng3, ↓s_next, ↓s_seq, ↓s_break, ↓s_cont, ↓s_drop, ↓s_ret, ↓s_retN, ↓s_ifS, ↓s_asg, ↓s_gNm, ↓s_gTup, ↓s_gNil, ↓s_gCons, ↓s_aug, ↓s_par, ↓s_for, ↓s_while, ↓s_lc, ↓s_lc2, ↓s_yes, ↓s_tvs0, ↓s_tvs1, ↓s_tvV, ↓s_tvS, ↓s_rvV, ↓s_rvS, ↓s_enum, ↓s_zip, ↓s_callIO, ↓fin_t, pins_nil, pins_p, pins_v, pins_un, lent1, slotL_s, ↓putB_1, ↓s_setI, ↓s_dput, ↓s_daug, ↓s_dnew, ↓s_disp, ↓s_flat0, ↓s_flat1, ↓s_never, ↓s_raise, ↓s_neverE, mkD, D.key, Option.map_some, dgetM, ↓br_t, ↓br_f, ↓s_fin0, ↓s_ref, ↓s_tupRg, ↓s_lstRg, ↓s_rg1, ↓s_rg2, hide, hideS, s_resV, s_resS, s_resL0, s_resL1, s_slotM, s_setM, s_frz, s_frzL, wD_some, got_v, got_p, ↓gset_un, ↓gset_v, vslot_v, fslot_v, asB_b, asI_i, asT_t, asL_l, hasL_l, one_1, two_2, int1_1, int2_2, int3_3, ix0, ix1, Slot.fr?, Slot.m?, Slot.put, opz_f1, o_iop, b_lt, o_addI, o_addS, o_addT, o_addL, o_mulI, o_mulT, o_mulL, o_ixL, o_ixT, o_ixW, o_ixC, o_ixS, o_slL, o_slT, o_slS, o_lenL, o_lenT, o_lenW, o_lenC, o_lenD, o_lenS, o_abs, o_intI, o_intB, o_str, o_list, o_tupL, o_tupT, o_isN, o_isNotN, o_isTy, o_neg, t_non, t_bl, t_int, t_str, t_lst, t_tup, t_wtu, t_dic, i_lst, i_tup, i_wtu, i_scr, i_str, q_lst, q_scr, q_tup, q_wtu, o_sort, o_inL, o_inT, o_eqI, o_neI, o_all, o_any, o_sum, o_max2, o_min2, o_eqB, o_neB, o_ixD, o_ixDi, p_str, p_int, s_frzD, hasD_md, small_md, D.seqs, D.tyN, List.getElem?_cons_zero, List.getElem?_cons_succ, List.set_cons_zero, List.set_cons_succ, List.map_cons, List.map_nil, Option.bind_some, Option.map_some, true_and, and_true, and_assoc, startD, Bool.not_true, Bool.not_false, List.length_cons, List.length_nil, List.nil_append, List.cons_append, List.append_nil, List.replicate, Nat.reduceSub, Nat.reduceAdd, Nat.reduceLeDiff, wipeD, unw, freeAt, Option.getD_some, List.all_cons, List.all_nil, Bool.and_true, Bool.and_self, Slot.free, Nat.zero_sub, Nat.sub_zero, Nat.sub_self, Nat.reduceEqDiff, id_eq, decide_true, decide_false, eq_self, c_check_reads]
  rw [efd]
  refine ⟨cfd_r (by omega) (by omega), by decide, ?_⟩
  refine for_of (fun i s => ∃ a b, s = [.v (.fz (.int p)), .v (.fz (.tup (ns.map .int))), .v (.fz (.int m)), .v (.fz (.int (m / p))), a, b] ∧ a.pinned = false ∧ b.pinned = false ∧ i < 2 ∧ (i = 1 → ∀ q ∈ ns, m / p * p + q < m)) ⟨_, _, rfl, rfl, rfl, by decide, fun h => by cases h⟩ ?_ ?_
  · rintro i d s hd ⟨a, b, rfl, ha, hb, hi, hq⟩ N B R hN hB hR
    have hd' : d = .int (m / p + i) := by
      rcases (show i = 0 ∨ i = 1 by omega) with rfl | rfl
      · simp at hd; rw [← hd]; simp
      · simp at hd; rw [← hd]; simp
    subst hd'
    clear hd
    simp -dsimp only [↓s_var, ↓s_c, ↓s_op, ↓s_test, ↓s_truth, ↓s_chain, ↓s_and, ↓s_or, ↓s_not, ↓s_andV, ↓s_orV, ↓s_notV, ↓s_if, ↓s_un, ↓s_nil, ↓s_cons, ↓s_cb, ↓s_call, ↓s_tup, ↓s_lst, ↓s_nopart, ↓s_part, ↓s_sl, ↓s_app, ↓s_items, ↓s_rng1, ↓s_rng2, ↓s_rng3, ↓s_next, ↓s_seq, ↓s_break, ↓s_cont, ↓s_drop, ↓s_ret, ↓s_retN, ↓s_ifS, ↓s_asg, ↓s_gNm, ↓s_gTup, ↓s_gNil, ↓s_gCons, ↓s_aug, ↓s_par, ↓s_for, ↓s_while, ↓s_lc, ↓s_lc2, ↓s_yes, ↓s_tvs0, ↓s_tvs1, ↓s_tvV, ↓s_tvS, ↓s_rvV, ↓s_rvS, ↓s_enum, ↓s_zip, ↓s_callIO, ↓fin_t, pins_nil, pins_p, pins_v, pins_un, lent1, slotL_s, ↓putB_1, ↓s_setI, ↓s_dput, ↓s_daug, ↓s_dnew, ↓s_disp, ↓s_flat0, ↓s_flat1, ↓s_never, ↓s_raise, ↓s_neverE, mkD, D.key, Option.map_some, dgetM, ↓br_t, ↓br_f, ↓s_fin0, ↓s_ref, ↓s_tupRg, ↓s_lstRg, ↓s_rg1, ↓s_rg2, hide, hideS, s_resV, s_resS, s_resL0, s_resL1, s_slotM, s_setM, s_frz, s_frzL, wD_some, got_v, got_p, ↓gset_un, ↓gset_v, vslot_v, fslot_v, asB_b, asI_i, asT_t, asL_l, hasL_l, one_1, two_2, int1_1, int2_2, int3_3, ix0, ix1, Slot.fr?, Slot.m?, Slot.put, opz_f1, o_iop, b_lt, o_addI, o_addS, o_addT, o_addL, o_mulI, o_mulT, o_mulL, o_ixL, o_ixT, o_ixW, o_ixC, o_ixS, o_slL, o_slT, o_slS, o_lenL, o_lenT, o_lenW, o_lenC, o_lenD, o_lenS, o_abs, o_intI, o_intB, o_str, o_list, o_tupL, o_tupT, o_isN, o_isNotN, o_isTy, o_neg, t_non, t_bl, t_int, t_str, t_lst, t_tup, t_wtu, t_dic, i_lst, i_tup, i_wtu, i_scr, i_str, q_lst, q_scr, q_tup, q_wtu, o_sort, o_inL, o_inT, o_eqI, o_neI, o_all, o_any, o_sum, o_max2, o_min2, o_eqB, o_neB, o_ixD, o_ixDi, p_str, p_int, s_frzD, hasD_md, small_md, D.seqs, D.tyN, List.getElem?_cons_zero, List.getElem?_cons_succ, List.set_cons_zero, List.set_cons_succ, List.map_cons, List.map_nil, Option.bind_some, Option.map_some, true_and, and_true, and_assoc, startD, Bool.not_true, Bool.not_false, List.length_cons, List.length_nil, List.nil_append, List.cons_append, List.append_nil, List.replicate, Nat.reduceSub, Nat.reduceAdd, Nat.reduceLeDiff, wipeD, unw, freeAt, Option.getD_some, List.all_cons, List.all_nil, Bool.and_true, Bool.and_self, Slot.free, Nat.zero_sub, Nat.sub_zero, Nat.sub_self, Nat.reduceEqDiff, id_eq, decide_true, decide_false, eq_self, c_check_reads,  gset_free ha]
    refine for_ofE (fun j s => ∃ b, s = [.v (.fz (.int p)), .v (.fz (.tup (ns.map .int))), .v (.fz (.int m)), .v (.fz (.int (m / p))), .v (.fz (.int (m / p + i))), b] ∧ b.pinned = false ∧ ∀ q ∈ ns.take j, (m / p + i) * p + q < m) ⟨_, rfl, hb, by simp⟩ ?_ ?_
    · rintro j r s hj ⟨b, rfl, hb, hall⟩ N' B' R' hN' hB' hR'
      simp -dsimp only [↓s_var, ↓s_c, ↓s_op, ↓s_test, ↓s_truth, ↓s_chain, ↓s_and, ↓s_or, ↓s_not, ↓s_andV, ↓s_orV, ↓s_notV, ↓s_if, ↓s_un, ↓s_nil, ↓s_cons, ↓s_cb, ↓s_call, ↓s_tup, ↓s_lst, ↓s_nopart, ↓s_part, ↓s_sl, ↓s_app, ↓s_items, ↓s_rng1, ↓s_rng2, ↓s_rng3, ↓s_next, ↓s_seq, ↓s_break, ↓s_cont, ↓s_drop, ↓s_ret, ↓s_retN, ↓s_ifS, ↓s_asg, ↓s_gNm, ↓s_gTup, ↓s_gNil, ↓s_gCons, ↓s_aug, ↓s_par, ↓s_for, ↓s_while, ↓s_lc, ↓s_lc2, ↓s_yes, ↓s_tvs0, ↓s_tvs1, ↓s_tvV, ↓s_tvS, ↓s_rvV, ↓s_rvS, ↓s_enum, ↓s_zip, ↓s_callIO, ↓fin_t, pins_nil, pins_p, pins_v, pins_un, lent1, slotL_s, ↓putB_1, ↓s_setI, ↓s_dput, ↓s_daug, ↓s_dnew, ↓s_disp, ↓s_flat0, ↓s_flat1, ↓s_never, ↓s_raise, ↓s_neverE, mkD, D.key, Option.map_some, dgetM, ↓br_t, ↓br_f, ↓s_fin0, ↓s_ref, ↓s_tupRg, ↓s_lstRg, ↓s_rg1, ↓s_rg2, hide, hideS, s_resV, s_resS, s_resL0, s_resL1, s_slotM, s_setM, s_frz, s_frzL, wD_some, got_v, got_p, ↓gset_un, ↓gset_v, vslot_v, fslot_v, asB_b, asI_i, asT_t, asL_l, hasL_l, one_1, two_2, int1_1, int2_2, int3_3, ix0, ix1, Slot.fr?, Slot.m?, Slot.put, opz_f1, o_iop, b_lt, o_addI, o_addS, o_addT, o_addL, o_mulI, o_mulT, o_mulL, o_ixL, o_ixT, o_ixW, o_ixC, o_ixS, o_slL, o_slT, o_slS, o_lenL, o_lenT, o_lenW, o_lenC, o_lenD, o_lenS, o_abs, o_intI, o_intB, o_str, o_list, o_tupL, o_tupT, o_isN, o_isNotN, o_isTy, o_neg, t_non, t_bl, t_int, t_str, t_lst, t_tup, t_wtu, t_dic, i_lst, i_tup, i_wtu, i_scr, i_str, q_lst, q_scr, q_tup, q_wtu, o_sort, o_inL, o_inT, o_eqI, o_neI, o_all, o_any, o_sum, o_max2, o_min2, o_eqB, o_neB, o_ixD, o_ixDi, p_str, p_int, s_frzD, hasD_md, small_md, D.seqs, D.tyN, List.getElem?_cons_zero, List.getElem?_cons_succ, List.set_cons_zero, List.set_cons_succ, List.map_cons, List.map_nil, Option.bind_some, Option.map_some, true_and, and_true, and_assoc, startD, Bool.not_true, Bool.not_false, List.length_cons, List.length_nil, List.nil_append, List.cons_append, List.append_nil, List.replicate, Nat.reduceSub, Nat.reduceAdd, Nat.reduceLeDiff, wipeD, unw, freeAt, Option.getD_some, List.all_cons, List.all_nil, Bool.and_true, Bool.and_self, Slot.free, Nat.zero_sub, Nat.sub_zero, Nat.sub_self, Nat.reduceEqDiff, id_eq, decide_true, decide_false, eq_self, c_check_reads,  gset_free hb]
      refine ⟨cmul_r (by omega) (by omega), br_dec (fun h => ?_) (fun h => ?_)⟩
      · simp -dsimp only [↓s_var, ↓s_c, ↓s_op, ↓s_test, ↓s_truth, ↓s_chain, ↓s_and, ↓s_or, ↓s_not, ↓s_andV, ↓s_orV, ↓s_notV, ↓s_if, ↓s_un, ↓s_nil, ↓s_cons, ↓s_cb, ↓s_call, ↓s_tup, ↓s_lst, ↓s_nopart, ↓s_part, ↓s_sl, ↓s_app, ↓s_items, ↓s_rng1, ↓s_rng2, ↓s_rng3, ↓s_next, ↓s_seq, ↓s_break, ↓s_cont, ↓s_drop, ↓s_ret, ↓s_retN, ↓s_ifS, ↓s_asg, ↓s_gNm, ↓s_gTup, ↓s_gNil, ↓s_gCons, ↓s_aug, ↓s_par, ↓s_for, ↓s_while, ↓s_lc, ↓s_lc2, ↓s_yes, ↓s_tvs0, ↓s_tvs1, ↓s_tvV, ↓s_tvS, ↓s_rvV, ↓s_rvS, ↓s_enum, ↓s_zip, ↓s_callIO, ↓fin_t, pins_nil, pins_p, pins_v, pins_un, lent1, slotL_s, ↓putB_1, ↓s_setI, ↓s_dput, ↓s_daug, ↓s_dnew, ↓s_disp, ↓s_flat0, ↓s_flat1, ↓s_never, ↓s_raise, ↓s_neverE, mkD, D.key, Option.map_some, dgetM, ↓br_t, ↓br_f, ↓s_fin0, ↓s_ref, ↓s_tupRg, ↓s_lstRg, ↓s_rg1, ↓s_rg2, hide, hideS, s_resV, s_resS, s_resL0, s_resL1, s_slotM, s_setM, s_frz, s_frzL, wD_some, got_v, got_p, ↓gset_un, ↓gset_v, vslot_v, fslot_v, asB_b, asI_i, asT_t, asL_l, hasL_l, one_1, two_2, int1_1, int2_2, int3_3, ix0, ix1, Slot.fr?, Slot.m?, Slot.put, opz_f1, o_iop, b_lt, o_addI, o_addS, o_addT, o_addL, o_mulI, o_mulT, o_mulL, o_ixL, o_ixT, o_ixW, o_ixC, o_ixS, o_slL, o_slT, o_slS, o_lenL, o_lenT, o_lenW, o_lenC, o_lenD, o_lenS, o_abs, o_intI, o_intB, o_str, o_list, o_tupL, o_tupT, o_isN, o_isNotN, o_isTy, o_neg, t_non, t_bl, t_int, t_str, t_lst, t_tup, t_wtu, t_dic, i_lst, i_tup, i_wtu, i_scr, i_str, q_lst, q_scr, q_tup, q_wtu, o_sort, o_inL, o_inT, o_eqI, o_neI, o_all, o_any, o_sum, o_max2, o_min2, o_eqB, o_neB, o_ixD, o_ixDi, p_str, p_int, s_frzD, hasD_md, small_md, D.seqs, D.tyN, List.getElem?_cons_zero, List.getElem?_cons_succ, List.set_cons_zero, List.set_cons_succ, List.map_cons, List.map_nil, Option.bind_some, Option.map_some, true_and, and_true, and_assoc, startD, Bool.not_true, Bool.not_false, List.length_cons, List.length_nil, List.nil_append, List.cons_append, List.append_nil, List.replicate, Nat.reduceSub, Nat.reduceAdd, Nat.reduceLeDiff, wipeD, unw, freeAt, Option.getD_some, List.all_cons, List.all_nil, Bool.and_true, Bool.and_self, Slot.free, Nat.zero_sub, Nat.sub_zero, Nat.sub_self, Nat.reduceEqDiff, id_eq, decide_true, decide_false, eq_self, c_check_reads]
        refine ⟨cmul_r (by omega) (by omega), ?_⟩
        subst hR' hR
        have hn : nxt p ns m ((m / p + i) * p + r) := by
          rcases (show i = 0 ∨ i = 1 by omega) with rfl | rfl
          · simp only [Int.natCast_zero, Int.add_zero] at hall h ⊢
            exact nxt_turn0 ok hj (by omega) hall
          · have hq := hq rfl
            have hj0 : j = 0 := by
              rcases Nat.eq_zero_or_pos j with q | q
              · exact q
              · exfalso
                have hjl := (List.getElem?_eq_some_iff.mp hj).1
                have h0 : ns[0] ∈ ns.take j := List.mem_take_iff_getElem.mpr ⟨0, by omega, rfl⟩
                have a1 := hall _ h0
                have a2 := ok.2.2.2 _ (List.mem_of_mem_take h0)
                have a3 := Int.emod_add_mul_ediv m p
                have a4 := Int.emod_lt_of_pos m (show 0 < p by omega)
                rw [Int.mul_comm] at a3
                simp only [Int.natCast_one, Int.add_mul, Int.one_mul] at a1
                omega
            subst hj0
            exact nxt_turn1 ok hj hq
        have := h2 ok
        rw [← hn.uniq (nx_spec ok.n)] at this
        exact this
      · simp -dsimp only [↓s_var, ↓s_c, ↓s_op, ↓s_test, ↓s_truth, ↓s_chain, ↓s_and, ↓s_or, ↓s_not, ↓s_andV, ↓s_orV, ↓s_notV, ↓s_if, ↓s_un, ↓s_nil, ↓s_cons, ↓s_cb, ↓s_call, ↓s_tup, ↓s_lst, ↓s_nopart, ↓s_part, ↓s_sl, ↓s_app, ↓s_items, ↓s_rng1, ↓s_rng2, ↓s_rng3, ↓s_next, ↓s_seq, ↓s_break, ↓s_cont, ↓s_drop, ↓s_ret, ↓s_retN, ↓s_ifS, ↓s_asg, ↓s_gNm, ↓s_gTup, ↓s_gNil, ↓s_gCons, ↓s_aug, ↓s_par, ↓s_for, ↓s_while, ↓s_lc, ↓s_lc2, ↓s_yes, ↓s_tvs0, ↓s_tvs1, ↓s_tvV, ↓s_tvS, ↓s_rvV, ↓s_rvS, ↓s_enum, ↓s_zip, ↓s_callIO, ↓fin_t, pins_nil, pins_p, pins_v, pins_un, lent1, slotL_s, ↓putB_1, ↓s_setI, ↓s_dput, ↓s_daug, ↓s_dnew, ↓s_disp, ↓s_flat0, ↓s_flat1, ↓s_never, ↓s_raise, ↓s_neverE, mkD, D.key, Option.map_some, dgetM, ↓br_t, ↓br_f, ↓s_fin0, ↓s_ref, ↓s_tupRg, ↓s_lstRg, ↓s_rg1, ↓s_rg2, hide, hideS, s_resV, s_resS, s_resL0, s_resL1, s_slotM, s_setM, s_frz, s_frzL, wD_some, got_v, got_p, ↓gset_un, ↓gset_v, vslot_v, fslot_v, asB_b, asI_i, asT_t, asL_l, hasL_l, one_1, two_2, int1_1, int2_2, int3_3, ix0, ix1, Slot.fr?, Slot.m?, Slot.put, opz_f1, o_iop, b_lt, o_addI, o_addS, o_addT, o_addL, o_mulI, o_mulT, o_mulL, o_ixL, o_ixT, o_ixW, o_ixC, o_ixS, o_slL, o_slT, o_slS, o_lenL, o_lenT, o_lenW, o_lenC, o_lenD, o_lenS, o_abs, o_intI, o_intB, o_str, o_list, o_tupL, o_tupT, o_isN, o_isNotN, o_isTy, o_neg, t_non, t_bl, t_int, t_str, t_lst, t_tup, t_wtu, t_dic, i_lst, i_tup, i_wtu, i_scr, i_str, q_lst, q_scr, q_tup, q_wtu, o_sort, o_inL, o_inT, o_eqI, o_neI, o_all, o_any, o_sum, o_max2, o_min2, o_eqB, o_neB, o_ixD, o_ixDi, p_str, p_int, s_frzD, hasD_md, small_md, D.seqs, D.tyN, List.getElem?_cons_zero, List.getElem?_cons_succ, List.set_cons_zero, List.set_cons_succ, List.map_cons, List.map_nil, Option.bind_some, Option.map_some, true_and, and_true, and_assoc, startD, Bool.not_true, Bool.not_false, List.length_cons, List.length_nil, List.nil_append, List.cons_append, List.append_nil, List.replicate, Nat.reduceSub, Nat.reduceAdd, Nat.reduceLeDiff, wipeD, unw, freeAt, Option.getD_some, List.all_cons, List.all_nil, Bool.and_true, Bool.and_self, Slot.free, Nat.zero_sub, Nat.sub_zero, Nat.sub_self, Nat.reduceEqDiff, id_eq, decide_true, decide_false, eq_self, c_check_reads]
        refine hN' _ ⟨_, rfl, rfl, fun q hq => ?_⟩
        rw [List.take_succ, hj] at hq
        rcases List.mem_append.mp hq with hq | hq
        · exact hall q hq
        · simp at hq; subst hq; omega
    · rintro s ⟨b, rfl, hb, hall⟩
      rw [List.take_length] at hall
      refine hN _ ⟨_, _, rfl, rfl, hb, ?_, ?_⟩
      · rcases (show i = 0 ∨ i = 1 by omega) with rfl | rfl
        · omega
        · exfalso
          obtain ⟨r, hr⟩ := List.exists_mem_of_ne_nil _ hne
          have a1 := hall _ hr
          have a2 := ok.2.2.2 _ hr
          have a3 := Int.emod_add_mul_ediv m p
          have a4 := Int.emod_lt_of_pos m (show 0 < p by omega)
          rw [Int.mul_comm] at a3
          simp only [Int.natCast_one, Int.add_mul, Int.one_mul] at a1
          omega
      · intro e q hqm
        have : i = 0 := by omega
        subst this
        have := hall q hqm
        simpa using this
  · rintro s ⟨a, b, rfl, ha, hb, hi, hq⟩
    simp at hi
/-! ### longest_unseen -/
def c_longest_unseen (IP : Addr) : CT
  | [.fz (.int p), .fz (.tup rs)], R, X => ∃ ns : List Int, rs = ns.map .int ∧ ns.length ≤ 1000 ∧ (okR p ns → R (.fz (.int (lg p ns))) []) ∧ (¬ okR p ns → X (.ref IP) none [])
  | _, _, _ => False
theorem sc_longest_unseen : FnScope N_longest_unseen ["period", "reads"] (defScope s_longest_unseen) := ⟨rfl, rfl, rfl, by decide +kernel, rfl, by decide +kernel, by decide +kernel⟩
theorem ok_longest_unseen (T : Txt K mg C_InvalidPlan) (G_check_reads : FnAt P w K mg base TB 1 "check_reads" ["period", "reads"] false (c_check_reads C_InvalidPlan)) (G_next_read : FnAt P w K mg base TB 2 "next_read" ["period", "reads", "moment"] false (c_next_read C_InvalidPlan)) (F : TopFn K mg "longest_unseen" s_longest_unseen ["period", "reads"]) : FnAt P w K mg base TB 3 "longest_unseen" ["period", "reads"] false (c_longest_unseen C_InvalidPlan) := by
  have nd := sc_longest_unseen.nd
  refine fnAt F sc_longest_unseen (fun ms R X h => by unfold c_longest_unseen at h; split at h <;> first | rfl | exact h.elim) (fun h => by cases h) fun f cdv A outer s H E x0 Xd hr => ?_
  refine ⟨_, _, (dss_cons (ds_expr (de_callN G_check_reads (hr.mono (by decide)) rfl rfl takesD (da_cons (dv 0) (da_cons (dv 1) da_nil))))
      (dss_one (ds_ret (de_callB (call_maxA rfl rfl) cd_max (by rfl) T.n_max bo_max (da_cons (de_lc (own := [("moment", 2)]) rfl nd (di_rng1 (by rfl) T.n_range (da_cons (dv 0) da_nil)) (blkOk_by (N := N_longest_unseen) (sc := defScope s_longest_unseen) (by decide +kernel)) (GOnly.name (by decide)) GMono.name (fun _ _ _ _ _ => (dg_name (i := 2) nd rfl (by first | exact Or.inl rfl | exact Or.inr rfl))) (fun _ _ _ _ _ => dts_nil) (fun _ _ _ _ _ => (de_op op_sub od_sub (de_callN G_next_read hr rfl rfl takes_blk (da_cons (dv 0) (da_cons (dv 1) (da_cons (dv 2) da_nil)))) (dv 2)))) da_nil))))), ?_⟩
  intro ms Rd h
  unfold c_longest_unseen at h
  split at h <;> first | exact (show False from h).elim | skip
  rename_i p rs
  obtain ⟨ns, rfl, h1, h2, h3⟩ := h
  simp -dsimp only [↓s_var, ↓s_c, ↓s_op, ↓s_test, ↓s_truth, ↓s_chain, ↓s_and, ↓s_or, ↓s_not, ↓s_andV, ↓s_orV, ↓s_notV, ↓s_if, ↓s_un, ↓s_nil, ↓s_cons, ↓s_cb, ↓s_call, ↓s_tup, ↓s_lst, ↓s_nopart, ↓s_part, ↓s_sl, ↓s_app, ↓s_items, ↓s_rng1, ↓s_rng2, ↓s_rng3, ↓s_next, ↓s_seq, ↓s_break, ↓s_cont, ↓s_drop, ↓s_ret, ↓s_retN, ↓s_ifS, ↓s_asg, ↓s_gNm, ↓s_gTup, ↓s_gNil, ↓s_gCons, ↓s_aug, ↓s_par, ↓s_for, ↓s_while, ↓s_lc, ↓s_lc2, ↓s_yes, ↓s_tvs0, ↓s_tvs1, ↓s_tvV, ↓s_tvS, ↓s_rvV, ↓s_rvS, ↓s_enum, ↓s_zip, ↓s_callIO, ↓fin_t, pins_nil, pins_p, pins_v, pins_un, lent1, slotL_s, ↓putB_1, ↓s_setI, ↓s_dput, ↓s_daug, ↓s_dnew, ↓s_disp, ↓s_flat0, ↓s_flat1, ↓s_never, ↓s_raise, ↓s_neverE, mkD, D.key, Option.map_some, dgetM, ↓br_t, ↓br_f, ↓s_fin0, ↓s_ref, ↓s_tupRg, ↓s_lstRg, ↓s_rg1, ↓s_rg2, hide, hideS, s_resV, s_resS, s_resL0, s_resL1, s_slotM, s_setM, s_frz, s_frzL, wD_some, got_v, got_p, ↓gset_un, ↓gset_v, vslot_v, fslot_v, asB_b, asI_i, asT_t, asL_l, hasL_l, one_1, two_2, int1_1, int2_2, int3_3, ix0, ix1, Slot.fr?, Slot.m?, Slot.put, opz_f1, o_iop, b_lt, o_addI, o_addS, o_addT, o_addL, o_mulI, o_mulT, o_mulL, o_ixL, o_ixT, o_ixW, o_ixC, o_ixS, o_slL, o_slT, o_slS, o_lenL, o_lenT, o_lenW, o_lenC, o_lenD, o_lenS, o_abs, o_intI, o_intB, o_str, o_list, o_tupL, o_tupT, o_isN, o_isNotN, o_isTy, o_neg, t_non, t_bl, t_int, t_str, t_lst, t_tup, t_wtu, t_dic, i_lst, i_tup, i_wtu, i_scr, i_str, q_lst, q_scr, q_tup, q_wtu, o_sort, o_inL, o_inT, o_eqI, o_neI, o_all, o_any, o_sum, o_max2, o_min2, o_eqB, o_neB, o_ixD, o_ixDi, p_str, p_int, s_frzD, hasD_md, small_md, D.seqs, D.tyN, List.getElem?_cons_zero, List.getElem?_cons_succ, List.set_cons_zero, List.set_cons_succ, List.map_cons, List.map_nil, Option.bind_some, Option.map_some, true_and, and_true, and_assoc, startD, Bool.not_true, Bool.not_false, List.length_cons, List.length_nil, List.nil_append, List.cons_append, List.append_nil, List.replicate, Nat.reduceSub, Nat.reduceAdd, Nat.reduceLeDiff, wipeD, unw, freeAt, Option.getD_some, List.all_cons, List.all_nil, Bool.and_true, Bool.and_self, Slot.free, Nat.zero_sub, Nat.sub_zero, Nat.sub_self, Nat.reduceEqDiff, id_eq, decide_true, decide_false, eq_self, c_check_reads, c_next_read]
  refine ⟨ns, rfl, h1, fun ok => ?_, h3⟩
  have hp := ok.1
  try simp -dsimp only [↓s_var, ↓s_c, ↓s_op, ↓s_test, ↓s_truth, ↓s_chain, ↓s_and, ↓s_or, ↓s_not, ↓s_andV, ↓s_orV, ↓s_notV, ↓s_if, ↓s_un, ↓s_nil, ↓s_cons, ↓s_cb, ↓s_call, ↓s_tup, ↓s_lst, ↓s_nopart, ↓s_part, ↓s_sl, ↓s_app, ↓s_items, ↓s_rng1, ↓s_rng2, ↓s_rng3, ↓s_next, ↓s_seq, ↓s_break, ↓s_cont, ↓s_drop, ↓s_ret, ↓s_retN, ↓s_ifS, ↓s_asg, ↓s_gNm, ↓s_gTup, ↓s_gNil, ↓s_gCons, ↓s_aug, ↓s_par, ↓s_for, ↓s_while, ↓s_lc, ↓s_lc2, ↓s_yes, ↓s_tvs0, ↓s_tvs1, ↓s_tvV, ↓s_tvS, ↓s_rvV, ↓s_rvS, ↓s_enum, ↓s_zip, ↓s_callIO, ↓fin_t, pins_nil, pins_p, pins_v, pins_un, lent1, slotL_s, ↓putB_1, ↓s_setI, ↓s_dput, ↓s_daug, ↓s_dnew, ↓s_disp, ↓s_flat0, ↓s_flat1, ↓s_never, ↓s_raise, ↓s_neverE, mkD, D.key, Option.map_some, dgetM, ↓br_t, ↓br_f, ↓s_fin0, ↓s_ref, ↓s_tupRg, ↓s_lstRg, ↓s_rg1, ↓s_rg2, hide, hideS, s_resV, s_resS, s_resL0, s_resL1, s_slotM, s_setM, s_frz, s_frzL, wD_some, got_v, got_p, ↓gset_un, ↓gset_v, vslot_v, fslot_v, asB_b, asI_i, asT_t, asL_l, hasL_l, one_1, two_2, int1_1, int2_2, int3_3, ix0, ix1, Slot.fr?, Slot.m?, Slot.put, opz_f1, o_iop, b_lt, o_addI, o_addS, o_addT, o_addL, o_mulI, o_mulT, o_mulL, o_ixL, o_ixT, o_ixW, o_ixC, o_ixS, o_slL, o_slT, o_slS, o_lenL, o_lenT, o_lenW, o_lenC, o_lenD, o_lenS, o_abs, o_intI, o_intB, o_str, o_list, o_tupL, o_tupT, o_isN, o_isNotN, o_isTy, o_neg, t_non, t_bl, t_int, t_str, t_lst, t_tup, t_wtu, t_dic, i_lst, i_tup, i_wtu, i_scr, i_str, q_lst, q_scr, q_tup, q_wtu, o_sort, o_inL, o_inT, o_eqI, o_neI, o_all, o_any, o_sum, o_max2, o_min2, o_eqB, o_neB, o_ixD, o_ixDi, p_str, p_int, s_frzD, hasD_md, small_md, D.seqs, D.tyN, List.getElem?_cons_zero, List.getElem?_cons_succ, List.set_cons_zero, List.set_cons_succ, List.map_cons, List.map_nil, Option.bind_some, Option.map_some, true_and, and_true, and_assoc, startD, Bool.not_true, Bool.not_false, List.length_cons, List.length_nil, List.nil_append, List.cons_append, List.append_nil, List.replicate, Nat.reduceSub, Nat.reduceAdd, Nat.reduceLeDiff, wipeD, unw, freeAt, Option.getD_some, List.all_cons, List.all_nil, Bool.and_true, Bool.and_self, Slot.free, Nat.zero_sub, Nat.sub_zero, Nat.sub_self, Nat.reduceEqDiff, id_eq, decide_true, decide_false, eq_self, c_check_reads, c_next_read]
  refine ⟨by omega, by omega, ?_⟩
  rw [rng_isq]
  refine lcR_mapE (fun s => s = [.v (.fz (.int p)), .v (.fz (.tup (ns.map .int))), .un]) (fun m => .int (nx p ns m - m)) (by rw [isq_len]; unfold sizeLine; omega) rfl ?_ ?_
  · rintro m hm s rfl R hR
    simp -dsimp only [↓s_var, ↓s_c, ↓s_op, ↓s_test, ↓s_truth, ↓s_chain, ↓s_and, ↓s_or, ↓s_not, ↓s_andV, ↓s_orV, ↓s_notV, ↓s_if, ↓s_un, ↓s_nil, ↓s_cons, ↓s_cb, ↓s_call, ↓s_tup, ↓s_lst, ↓s_nopart, ↓s_part, ↓s_sl, ↓s_app, ↓s_items, ↓s_rng1, ↓s_rng2, ↓s_rng3, ↓s_next, ↓s_seq, ↓s_break, ↓s_cont, ↓s_drop, ↓s_ret, ↓s_retN, ↓s_ifS, ↓s_asg, ↓s_gNm, ↓s_gTup, ↓s_gNil, ↓s_gCons, ↓s_aug, ↓s_par, ↓s_for, ↓s_while, ↓s_lc, ↓s_lc2, ↓s_yes, ↓s_tvs0, ↓s_tvs1, ↓s_tvV, ↓s_tvS, ↓s_rvV, ↓s_rvS, ↓s_enum, ↓s_zip, ↓s_callIO, ↓fin_t, pins_nil, pins_p, pins_v, pins_un, lent1, slotL_s, ↓putB_1, ↓s_setI, ↓s_dput, ↓s_daug, ↓s_dnew, ↓s_disp, ↓s_flat0, ↓s_flat1, ↓s_never, ↓s_raise, ↓s_neverE, mkD, D.key, Option.map_some, dgetM, ↓br_t, ↓br_f, ↓s_fin0, ↓s_ref, ↓s_tupRg, ↓s_lstRg, ↓s_rg1, ↓s_rg2, hide, hideS, s_resV, s_resS, s_resL0, s_resL1, s_slotM, s_setM, s_frz, s_frzL, wD_some, got_v, got_p, ↓gset_un, ↓gset_v, vslot_v, fslot_v, asB_b, asI_i, asT_t, asL_l, hasL_l, one_1, two_2, int1_1, int2_2, int3_3, ix0, ix1, Slot.fr?, Slot.m?, Slot.put, opz_f1, o_iop, b_lt, o_addI, o_addS, o_addT, o_addL, o_mulI, o_mulT, o_mulL, o_ixL, o_ixT, o_ixW, o_ixC, o_ixS, o_slL, o_slT, o_slS, o_lenL, o_lenT, o_lenW, o_lenC, o_lenD, o_lenS, o_abs, o_intI, o_intB, o_str, o_list, o_tupL, o_tupT, o_isN, o_isNotN, o_isTy, o_neg, t_non, t_bl, t_int, t_str, t_lst, t_tup, t_wtu, t_dic, i_lst, i_tup, i_wtu, i_scr, i_str, q_lst, q_scr, q_tup, q_wtu, o_sort, o_inL, o_inT, o_eqI, o_neI, o_all, o_any, o_sum, o_max2, o_min2, o_eqB, o_neB, o_ixD, o_ixDi, p_str, p_int, s_frzD, hasD_md, small_md, D.seqs, D.tyN, List.getElem?_cons_zero, List.getElem?_cons_succ, List.set_cons_zero, List.set_cons_succ, List.map_cons, List.map_nil, Option.bind_some, Option.map_some, true_and, and_true, and_assoc, startD, Bool.not_true, Bool.not_false, List.length_cons, List.length_nil, List.nil_append, List.cons_append, List.append_nil, List.replicate, Nat.reduceSub, Nat.reduceAdd, Nat.reduceLeDiff, wipeD, unw, freeAt, Option.getD_some, List.all_cons, List.all_nil, Bool.and_true, Bool.and_self, Slot.free, Nat.zero_sub, Nat.sub_zero, Nat.sub_self, Nat.reduceEqDiff, id_eq, decide_true, decide_false, eq_self, c_check_reads, c_next_read]
    refine ⟨ns, rfl, h1, fun _ => ?_, fun h => absurd ok h⟩
    try simp -dsimp only [↓s_var, ↓s_c, ↓s_op, ↓s_test, ↓s_truth, ↓s_chain, ↓s_and, ↓s_or, ↓s_not, ↓s_andV, ↓s_orV, ↓s_notV, ↓s_if, ↓s_un, ↓s_nil, ↓s_cons, ↓s_cb, ↓s_call, ↓s_tup, ↓s_lst, ↓s_nopart, ↓s_part, ↓s_sl, ↓s_app, ↓s_items, ↓s_rng1, ↓s_rng2, ↓s_rng3, ↓s_next, ↓s_seq, ↓s_break, ↓s_cont, ↓s_drop, ↓s_ret, ↓s_retN, ↓s_ifS, ↓s_asg, ↓s_gNm, ↓s_gTup, ↓s_gNil, ↓s_gCons, ↓s_aug, ↓s_par, ↓s_for, ↓s_while, ↓s_lc, ↓s_lc2, ↓s_yes, ↓s_tvs0, ↓s_tvs1, ↓s_tvV, ↓s_tvS, ↓s_rvV, ↓s_rvS, ↓s_enum, ↓s_zip, ↓s_callIO, ↓fin_t, pins_nil, pins_p, pins_v, pins_un, lent1, slotL_s, ↓putB_1, ↓s_setI, ↓s_dput, ↓s_daug, ↓s_dnew, ↓s_disp, ↓s_flat0, ↓s_flat1, ↓s_never, ↓s_raise, ↓s_neverE, mkD, D.key, Option.map_some, dgetM, ↓br_t, ↓br_f, ↓s_fin0, ↓s_ref, ↓s_tupRg, ↓s_lstRg, ↓s_rg1, ↓s_rg2, hide, hideS, s_resV, s_resS, s_resL0, s_resL1, s_slotM, s_setM, s_frz, s_frzL, wD_some, got_v, got_p, ↓gset_un, ↓gset_v, vslot_v, fslot_v, asB_b, asI_i, asT_t, asL_l, hasL_l, one_1, two_2, int1_1, int2_2, int3_3, ix0, ix1, Slot.fr?, Slot.m?, Slot.put, opz_f1, o_iop, b_lt, o_addI, o_addS, o_addT, o_addL, o_mulI, o_mulT, o_mulL, o_ixL, o_ixT, o_ixW, o_ixC, o_ixS, o_slL, o_slT, o_slS, o_lenL, o_lenT, o_lenW, o_lenC, o_lenD, o_lenS, o_abs, o_intI, o_intB, o_str, o_list, o_tupL, o_tupT, o_isN, o_isNotN, o_isTy, o_neg, t_non, t_bl, t_int, t_str, t_lst, t_tup, t_wtu, t_dic, i_lst, i_tup, i_wtu, i_scr, i_str, q_lst, q_scr, q_tup, q_wtu, o_sort, o_inL, o_inT, o_eqI, o_neI, o_all, o_any, o_sum, o_max2, o_min2, o_eqB, o_neB, o_ixD, o_ixDi, p_str, p_int, s_frzD, hasD_md, small_md, D.seqs, D.tyN, List.getElem?_cons_zero, List.getElem?_cons_succ, List.set_cons_zero, List.set_cons_succ, List.map_cons, List.map_nil, Option.bind_some, Option.map_some, true_and, and_true, and_assoc, startD, Bool.not_true, Bool.not_false, List.length_cons, List.length_nil, List.nil_append, List.cons_append, List.append_nil, List.replicate, Nat.reduceSub, Nat.reduceAdd, Nat.reduceLeDiff, wipeD, unw, freeAt, Option.getD_some, List.all_cons, List.all_nil, Bool.and_true, Bool.and_self, Slot.free, Nat.zero_sub, Nat.sub_zero, Nat.sub_self, Nat.reduceEqDiff, id_eq, decide_true, decide_false, eq_self, c_check_reads, c_next_read]
    exact hR _ _ rfl rfl
  · rintro s' rfl
    simp -dsimp only [↓s_var, ↓s_c, ↓s_op, ↓s_test, ↓s_truth, ↓s_chain, ↓s_and, ↓s_or, ↓s_not, ↓s_andV, ↓s_orV, ↓s_notV, ↓s_if, ↓s_un, ↓s_nil, ↓s_cons, ↓s_cb, ↓s_call, ↓s_tup, ↓s_lst, ↓s_nopart, ↓s_part, ↓s_sl, ↓s_app, ↓s_items, ↓s_rng1, ↓s_rng2, ↓s_rng3, ↓s_next, ↓s_seq, ↓s_break, ↓s_cont, ↓s_drop, ↓s_ret, ↓s_retN, ↓s_ifS, ↓s_asg, ↓s_gNm, ↓s_gTup, ↓s_gNil, ↓s_gCons, ↓s_aug, ↓s_par, ↓s_for, ↓s_while, ↓s_lc, ↓s_lc2, ↓s_yes, ↓s_tvs0, ↓s_tvs1, ↓s_tvV, ↓s_tvS, ↓s_rvV, ↓s_rvS, ↓s_enum, ↓s_zip, ↓s_callIO, ↓fin_t, pins_nil, pins_p, pins_v, pins_un, lent1, slotL_s, ↓putB_1, ↓s_setI, ↓s_dput, ↓s_daug, ↓s_dnew, ↓s_disp, ↓s_flat0, ↓s_flat1, ↓s_never, ↓s_raise, ↓s_neverE, mkD, D.key, Option.map_some, dgetM, ↓br_t, ↓br_f, ↓s_fin0, ↓s_ref, ↓s_tupRg, ↓s_lstRg, ↓s_rg1, ↓s_rg2, hide, hideS, s_resV, s_resS, s_resL0, s_resL1, s_slotM, s_setM, s_frz, s_frzL, wD_some, got_v, got_p, ↓gset_un, ↓gset_v, vslot_v, fslot_v, asB_b, asI_i, asT_t, asL_l, hasL_l, one_1, two_2, int1_1, int2_2, int3_3, ix0, ix1, Slot.fr?, Slot.m?, Slot.put, opz_f1, o_iop, b_lt, o_addI, o_addS, o_addT, o_addL, o_mulI, o_mulT, o_mulL, o_ixL, o_ixT, o_ixW, o_ixC, o_ixS, o_slL, o_slT, o_slS, o_lenL, o_lenT, o_lenW, o_lenC, o_lenD, o_lenS, o_abs, o_intI, o_intB, o_str, o_list, o_tupL, o_tupT, o_isN, o_isNotN, o_isTy, o_neg, t_non, t_bl, t_int, t_str, t_lst, t_tup, t_wtu, t_dic, i_lst, i_tup, i_wtu, i_scr, i_str, q_lst, q_scr, q_tup, q_wtu, o_sort, o_inL, o_inT, o_eqI, o_neI, o_all, o_any, o_sum, o_max2, o_min2, o_eqB, o_neB, o_ixD, o_ixDi, p_str, p_int, s_frzD, hasD_md, small_md, D.seqs, D.tyN, List.getElem?_cons_zero, List.getElem?_cons_succ, List.set_cons_zero, List.set_cons_succ, List.map_cons, List.map_nil, Option.bind_some, Option.map_some, true_and, and_true, and_assoc, startD, Bool.not_true, Bool.not_false, List.length_cons, List.length_nil, List.nil_append, List.cons_append, List.append_nil, List.replicate, Nat.reduceSub, Nat.reduceAdd, Nat.reduceLeDiff, wipeD, unw, freeAt, Option.getD_some, List.all_cons, List.all_nil, Bool.and_true, Bool.and_self, Slot.free, Nat.zero_sub, Nat.sub_zero, Nat.sub_self, Nat.reduceEqDiff, id_eq, decide_true, decide_false, eq_self, c_check_reads, c_next_read]
    have hne : (isq 0 p.toNat).map (fun m => nx p ns m - m) ≠ [] := by
      intro e
      have := congrArg List.length e
      rw [List.length_map, isq_len] at this
      simp at this
      omega
    refine max_of (intL_mapf _ _) (lmax_mem hne) (fun y hy => lmax_le hy) ?_
    exact h2 ok
/-! ### takes_reads -/
def c_takes_reads (IP : Addr) : CT
  | [.fz (.int p), .fz (.tup rs), .fz (.int most)], R, X => ∃ ns : List Int, rs = ns.map .int ∧ okR p ns ∧ R (.fz (.bl (decide (lg p ns ≤ most)))) []
  | _, _, _ => False
theorem sc_takes_reads : FnScope N_takes_reads ["period", "reads", "most"] (defScope s_takes_reads) := ⟨rfl, rfl, rfl, by decide +kernel, rfl, by decide +kernel, by decide +kernel⟩
theorem ok_takes_reads (T : Txt K mg C_InvalidPlan) (G_longest_unseen : FnAt P w K mg base TB 3 "longest_unseen" ["period", "reads"] false (c_longest_unseen C_InvalidPlan)) (F : TopFn K mg "takes_reads" s_takes_reads ["period", "reads", "most"]) : FnAt P w K mg base TB 4 "takes_reads" ["period", "reads", "most"] false (c_takes_reads C_InvalidPlan) := by
  have nd := sc_takes_reads.nd
  refine fnAt F sc_takes_reads (fun ms R X h => by unfold c_takes_reads at h; split at h <;> first | rfl | exact h.elim) (fun h => by cases h) fun f cdv A outer s H E x0 Xd hr => ?_
  refine ⟨_, _, (dss_one (ds_ret (de_cmp op_le od_le (de_callN G_longest_unseen hr rfl rfl takesD (da_cons (dv 0) (da_cons (dv 1) da_nil))) (dv 2) (nomark _)))), ?_⟩
  intro ms Rd h
  unfold c_takes_reads at h
  split at h <;> first | exact (show False from h).elim | skip
  rename_i p rs most
  obtain ⟨ns, rfl, ok, h2⟩ := h
  simp -dsimp only [↓s_var, ↓s_c, ↓s_op, ↓s_test, ↓s_truth, ↓s_chain, ↓s_and, ↓s_or, ↓s_not, ↓s_andV, ↓s_orV, ↓s_notV, ↓s_if, ↓s_un, ↓s_nil, ↓s_cons, ↓s_cb, ↓s_call, ↓s_tup, ↓s_lst, ↓s_nopart, ↓s_part, ↓s_sl, ↓s_app, ↓s_items, ↓s_rng1, ↓s_rng2, ↓s_rng3, ↓s_next, ↓s_seq, ↓s_break, ↓s_cont, ↓s_drop, ↓s_ret, ↓s_retN, ↓s_ifS, ↓s_asg, ↓s_gNm, ↓s_gTup, ↓s_gNil, ↓s_gCons, ↓s_aug, ↓s_par, ↓s_for, ↓s_while, ↓s_lc, ↓s_lc2, ↓s_yes, ↓s_tvs0, ↓s_tvs1, ↓s_tvV, ↓s_tvS, ↓s_rvV, ↓s_rvS, ↓s_enum, ↓s_zip, ↓s_callIO, ↓fin_t, pins_nil, pins_p, pins_v, pins_un, lent1, slotL_s, ↓putB_1, ↓s_setI, ↓s_dput, ↓s_daug, ↓s_dnew, ↓s_disp, ↓s_flat0, ↓s_flat1, ↓s_never, ↓s_raise, ↓s_neverE, mkD, D.key, Option.map_some, dgetM, ↓br_t, ↓br_f, ↓s_fin0, ↓s_ref, ↓s_tupRg, ↓s_lstRg, ↓s_rg1, ↓s_rg2, hide, hideS, s_resV, s_resS, s_resL0, s_resL1, s_slotM, s_setM, s_frz, s_frzL, wD_some, got_v, got_p, ↓gset_un, ↓gset_v, vslot_v, fslot_v, asB_b, asI_i, asT_t, asL_l, hasL_l, one_1, two_2, int1_1, int2_2, int3_3, ix0, ix1, Slot.fr?, Slot.m?, Slot.put, opz_f1, o_iop, b_lt, o_addI, o_addS, o_addT, o_addL, o_mulI, o_mulT, o_mulL, o_ixL, o_ixT, o_ixW, o_ixC, o_ixS, o_slL, o_slT, o_slS, o_lenL, o_lenT, o_lenW, o_lenC, o_lenD, o_lenS, o_abs, o_intI, o_intB, o_str, o_list, o_tupL, o_tupT, o_isN, o_isNotN, o_isTy, o_neg, t_non, t_bl, t_int, t_str, t_lst, t_tup, t_wtu, t_dic, i_lst, i_tup, i_wtu, i_scr, i_str, q_lst, q_scr, q_tup, q_wtu, o_sort, o_inL, o_inT, o_eqI, o_neI, o_all, o_any, o_sum, o_max2, o_min2, o_eqB, o_neB, o_ixD, o_ixDi, p_str, p_int, s_frzD, hasD_md, small_md, D.seqs, D.tyN, List.getElem?_cons_zero, List.getElem?_cons_succ, List.set_cons_zero, List.set_cons_succ, List.map_cons, List.map_nil, Option.bind_some, Option.map_some, true_and, and_true, and_assoc, startD, Bool.not_true, Bool.not_false, List.length_cons, List.length_nil, List.nil_append, List.cons_append, List.append_nil, List.replicate, Nat.reduceSub, Nat.reduceAdd, Nat.reduceLeDiff, wipeD, unw, freeAt, Option.getD_some, List.all_cons, List.all_nil, Bool.and_true, Bool.and_self, Slot.free, Nat.zero_sub, Nat.sub_zero, Nat.sub_self, Nat.reduceEqDiff, id_eq, decide_true, decide_false, eq_self, c_longest_unseen]
  refine ⟨ns, rfl, by have := ok.2.1; omega, fun _ => ?_, fun h => absurd ok h⟩
  try simp -dsimp only [↓s_var, ↓s_c, ↓s_op, ↓s_test, ↓s_truth, ↓s_chain, ↓s_and, ↓s_or, ↓s_not, ↓s_andV, ↓s_orV, ↓s_notV, ↓s_if, ↓s_un, ↓s_nil, ↓s_cons, ↓s_cb, ↓s_call, ↓s_tup, ↓s_lst, ↓s_nopart, ↓s_part, ↓s_sl, ↓s_app, ↓s_items, ↓s_rng1, ↓s_rng2, ↓s_rng3, ↓s_next, ↓s_seq, ↓s_break, ↓s_cont, ↓s_drop, ↓s_ret, ↓s_retN, ↓s_ifS, ↓s_asg, ↓s_gNm, ↓s_gTup, ↓s_gNil, ↓s_gCons, ↓s_aug, ↓s_par, ↓s_for, ↓s_while, ↓s_lc, ↓s_lc2, ↓s_yes, ↓s_tvs0, ↓s_tvs1, ↓s_tvV, ↓s_tvS, ↓s_rvV, ↓s_rvS, ↓s_enum, ↓s_zip, ↓s_callIO, ↓fin_t, pins_nil, pins_p, pins_v, pins_un, lent1, slotL_s, ↓putB_1, ↓s_setI, ↓s_dput, ↓s_daug, ↓s_dnew, ↓s_disp, ↓s_flat0, ↓s_flat1, ↓s_never, ↓s_raise, ↓s_neverE, mkD, D.key, Option.map_some, dgetM, ↓br_t, ↓br_f, ↓s_fin0, ↓s_ref, ↓s_tupRg, ↓s_lstRg, ↓s_rg1, ↓s_rg2, hide, hideS, s_resV, s_resS, s_resL0, s_resL1, s_slotM, s_setM, s_frz, s_frzL, wD_some, got_v, got_p, ↓gset_un, ↓gset_v, vslot_v, fslot_v, asB_b, asI_i, asT_t, asL_l, hasL_l, one_1, two_2, int1_1, int2_2, int3_3, ix0, ix1, Slot.fr?, Slot.m?, Slot.put, opz_f1, o_iop, b_lt, o_addI, o_addS, o_addT, o_addL, o_mulI, o_mulT, o_mulL, o_ixL, o_ixT, o_ixW, o_ixC, o_ixS, o_slL, o_slT, o_slS, o_lenL, o_lenT, o_lenW, o_lenC, o_lenD, o_lenS, o_abs, o_intI, o_intB, o_str, o_list, o_tupL, o_tupT, o_isN, o_isNotN, o_isTy, o_neg, t_non, t_bl, t_int, t_str, t_lst, t_tup, t_wtu, t_dic, i_lst, i_tup, i_wtu, i_scr, i_str, q_lst, q_scr, q_tup, q_wtu, o_sort, o_inL, o_inT, o_eqI, o_neI, o_all, o_any, o_sum, o_max2, o_min2, o_eqB, o_neB, o_ixD, o_ixDi, p_str, p_int, s_frzD, hasD_md, small_md, D.seqs, D.tyN, List.getElem?_cons_zero, List.getElem?_cons_succ, List.set_cons_zero, List.set_cons_succ, List.map_cons, List.map_nil, Option.bind_some, Option.map_some, true_and, and_true, and_assoc, startD, Bool.not_true, Bool.not_false, List.length_cons, List.length_nil, List.nil_append, List.cons_append, List.append_nil, List.replicate, Nat.reduceSub, Nat.reduceAdd, Nat.reduceLeDiff, wipeD, unw, freeAt, Option.getD_some, List.all_cons, List.all_nil, Bool.and_true, Bool.and_self, Slot.free, Nat.zero_sub, Nat.sub_zero, Nat.sub_self, Nat.reduceEqDiff, id_eq, decide_true, decide_false, eq_self, c_longest_unseen]
  exact h2
/-! ### both_spoilt -/
def t3 (b : T3) : D := .tup [.int b.1, .int b.2.1, .int b.2.2]
def c_both_spoilt (IP : Addr) : CT
  | [.fz (.int p), .fz (.tup rs), .fz (.tup rs')], R, X => ∃ ns ns' : List Int, rs = ns.map .int ∧ rs' = ns'.map .int ∧ okR p ns ∧ okR p ns' ∧ R (.fz (t3 (best3 p ns ns'))) []
  | _, _, _ => False
theorem sc_both_spoilt : FnScope N_both_spoilt ["period", "first", "second"] (defScope s_both_spoilt) := ⟨rfl, rfl, rfl, by decide +kernel, rfl, by decide +kernel, by decide +kernel⟩
theorem ok_both_spoilt (T : Txt K mg C_InvalidPlan) (G_check_reads : FnAt P w K mg base TB 1 "check_reads" ["period", "reads"] false (c_check_reads C_InvalidPlan)) (G_next_read : FnAt P w K mg base TB 2 "next_read" ["period", "reads", "moment"] false (c_next_read C_InvalidPlan)) (F : TopFn K mg "both_spoilt" s_both_spoilt ["period", "first", "second"]) : FnAt P w K mg base TB 3 "both_spoilt" ["period", "first", "second"] false (c_both_spoilt C_InvalidPlan) := by
  have nd := sc_both_spoilt.nd
  refine fnAt F sc_both_spoilt (fun ms R X h => by unfold c_both_spoilt at h; split at h <;> first | rfl | exact h.elim) (fun h => by cases h) fun f cdv A outer s H E x0 Xd hr => ?_
  refine ⟨_, _, (dss_cons (ds_expr (de_callN G_check_reads (hr.mono (by decide)) rfl rfl takesD (da_cons (dv 0) (da_cons (dv 1) da_nil))))
      (dss_cons (ds_expr (de_callN G_check_reads (hr.mono (by decide)) rfl rfl takesD (da_cons (dv 0) (da_cons (dv 2) da_nil))))
      (dss_cons (ds_set (i := 3) nd rfl (by first | exact Or.inl rfl | exact Or.inr rfl) (de_tup (da_cons de_int (da_cons de_int (da_cons de_int da_nil)))))
      (dss_cons (ds_for passD rfl (di_rng1 (by rfl) T.n_range (da_cons (dv 0) da_nil)) (dg_name (i := 4) nd rfl (by first | exact Or.inl rfl | exact Or.inr rfl))
      (dss_one (ds_for passD rfl (di_rng2 (by rfl) T.n_range (da_cons (de_op op_sub od_sub (dv 4) (dv 0)) (da_cons (de_op (op_addA rfl) od_add (dv 4) (dv 0)) da_nil))) (dg_name (i := 5) nd rfl (by first | exact Or.inl rfl | exact Or.inr rfl))
      (dss_cons (ds_set (i := 6) nd rfl (by first | exact Or.inl rfl | exact Or.inr rfl) (de_callB (call_maxA rfl rfl) cd_max (by rfl) T.n_max bo_max (da_cons (dv 4) (da_cons (dv 5) da_nil))))
      (dss_cons (ds_set (i := 7) nd rfl (by first | exact Or.inl rfl | exact Or.inr rfl) (de_callB (call_minA rfl rfl) cd_min (by rfl) T.n_min bo_min (da_cons (de_callN G_next_read hr rfl rfl takesD (da_cons (dv 0) (da_cons (dv 1) (da_cons (dv 4) da_nil)))) (da_cons (de_callN G_next_read hr rfl rfl takesD (da_cons (dv 0) (da_cons (dv 2) (da_cons (dv 5) da_nil)))) da_nil))))
      (dss_one (ds_if (dt_cmp op_gt od_gt (de_op op_sub od_sub (dv 7) (dv 6)) (de_ix rfl (hu1 hr) (dv 3) de_int) (nomark _))
      (dss_one (ds_set (i := 3) nd rfl (by first | exact Or.inl rfl | exact Or.inr rfl) (de_tup (da_cons (de_op op_sub od_sub (dv 7) (dv 6)) (da_cons (dv 4) (da_cons (dv 5) da_nil))))))
      dss_nil)))))))
      (dss_one (ds_ret (dv 3))))))), ?_⟩
  intro ms Rd h
  unfold c_both_spoilt at h
  split at h <;> first | exact (show False from h).elim | skip
  rename_i p rs rs'
  obtain ⟨ns, ns', rfl, rfl, ok, ok', h2⟩ := h
  have hp := ok.1
  simp -dsimp only [↓s_var, ↓s_c, ↓s_op, ↓s_test, ↓s_truth, ↓s_chain, ↓s_and, ↓s_or, ↓s_not, ↓s_andV, ↓s_orV, ↓s_notV, ↓s_if, ↓s_un, ↓s_nil, ↓s_cons, ↓s_cb, ↓s_call, ↓s_tup, ↓s_lst, ↓s_nopart, ↓s_part, ↓s_sl, ↓s_app, ↓s_items, ↓s_rng1, ↓s_rng2, ↓s_rng3, ↓s_next, ↓s_seq, ↓s_break, ↓s_cont, ↓s_drop, ↓s_ret, ↓s_retN, ↓s_ifS, ↓s_asg, ↓s_gNm, ↓s_gTup, ↓s_gNil, ↓s_gCons, ↓s_aug, ↓s_par, ↓s_for, ↓s_while, ↓s_lc, ↓s_lc2, ↓s_yes, ↓s_tvs0, ↓s_tvs1, ↓s_tvV, ↓s_tvS, ↓s_rvV, ↓s_rvS, ↓s_enum, ↓s_zip, ↓s_callIO, ↓fin_t, pins_nil, pins_p, pins_v, pins_un, lent1, slotL_s, ↓putB_1, ↓s_setI, ↓s_dput, ↓s_daug, ↓s_dnew, ↓s_disp, ↓s_flat0, ↓s_flat1, ↓s_never, ↓s_raise, ↓s_neverE, mkD, D.key, Option.map_some, dgetM, ↓br_t, ↓br_f, ↓s_fin0, ↓s_ref, ↓s_tupRg, ↓s_lstRg, ↓s_rg1, ↓s_rg2, hide, hideS, s_resV, s_resS, s_resL0, s_resL1, s_slotM, s_setM, s_frz, s_frzL, wD_some, got_v, got_p, ↓gset_un, ↓gset_v, vslot_v, fslot_v, asB_b, asI_i, asT_t, asL_l, hasL_l, one_1, two_2, int1_1, int2_2, int3_3, ix0, ix1, Slot.fr?, Slot.m?, Slot.put, opz_f1, o_iop, b_lt, o_addI, o_addS, o_addT, o_addL, o_mulI, o_mulT, o_mulL, o_ixL, o_ixT, o_ixW, o_ixC, o_ixS, o_slL, o_slT, o_slS, o_lenL, o_lenT, o_lenW, o_lenC, o_lenD, o_lenS, o_abs, o_intI, o_intB, o_str, o_list, o_tupL, o_tupT, o_isN, o_isNotN, o_isTy, o_neg, t_non, t_bl, t_int, t_str, t_lst, t_tup, t_wtu, t_dic, i_lst, i_tup, i_wtu, i_scr, i_str, q_lst, q_scr, q_tup, q_wtu, o_sort, o_inL, o_inT, o_eqI, o_neI, o_all, o_any, o_sum, o_max2, o_min2, o_eqB, o_neB, o_ixD, o_ixDi, p_str, p_int, s_frzD, hasD_md, small_md, D.seqs, D.tyN, List.getElem?_cons_zero, List.getElem?_cons_succ, List.set_cons_zero, List.set_cons_succ, List.map_cons, List.map_nil, Option.bind_some, Option.map_some, true_and, and_true, and_assoc, startD, Bool.not_true, Bool.not_false, List.length_cons, List.length_nil, List.nil_append, List.cons_append, List.append_nil, List.replicate, Nat.reduceSub, Nat.reduceAdd, Nat.reduceLeDiff, wipeD, unw, freeAt, Option.getD_some, List.all_cons, List.all_nil, Bool.and_true, Bool.and_self, Slot.free, Nat.zero_sub, Nat.sub_zero, Nat.sub_self, Nat.reduceEqDiff, id_eq, decide_true, decide_false, eq_self, c_check_reads, c_next_read]
  refine ⟨ns, rfl, by have := ok.2.1; omega, fun _ => ?_, fun h => absurd ok h⟩
  try simp -dsimp only [↓s_var, ↓s_c, ↓s_op, ↓s_test, ↓s_truth, ↓s_chain, ↓s_and, ↓s_or, ↓s_not, ↓s_andV, ↓s_orV, ↓s_notV, ↓s_if, ↓s_un, ↓s_nil, ↓s_cons, ↓s_cb, ↓s_call, ↓s_tup, ↓s_lst, ↓s_nopart, ↓s_part, ↓s_sl, ↓s_app, ↓s_items, ↓s_rng1, ↓s_rng2, ↓s_rng3, ↓s_next, ↓s_seq, ↓s_break, ↓s_cont, ↓s_drop, ↓s_ret, ↓s_retN, ↓s_ifS, ↓s_asg, ↓s_gNm, ↓s_gTup, ↓s_gNil, ↓s_gCons, ↓s_aug, ↓s_par, ↓s_for, ↓s_while, ↓s_lc, ↓s_lc2, ↓s_yes, ↓s_tvs0, ↓s_tvs1, ↓s_tvV, ↓s_tvS, ↓s_rvV, ↓s_rvS, ↓s_enum, ↓s_zip, ↓s_callIO, ↓fin_t, pins_nil, pins_p, pins_v, pins_un, lent1, slotL_s, ↓putB_1, ↓s_setI, ↓s_dput, ↓s_daug, ↓s_dnew, ↓s_disp, ↓s_flat0, ↓s_flat1, ↓s_never, ↓s_raise, ↓s_neverE, mkD, D.key, Option.map_some, dgetM, ↓br_t, ↓br_f, ↓s_fin0, ↓s_ref, ↓s_tupRg, ↓s_lstRg, ↓s_rg1, ↓s_rg2, hide, hideS, s_resV, s_resS, s_resL0, s_resL1, s_slotM, s_setM, s_frz, s_frzL, wD_some, got_v, got_p, ↓gset_un, ↓gset_v, vslot_v, fslot_v, asB_b, asI_i, asT_t, asL_l, hasL_l, one_1, two_2, int1_1, int2_2, int3_3, ix0, ix1, Slot.fr?, Slot.m?, Slot.put, opz_f1, o_iop, b_lt, o_addI, o_addS, o_addT, o_addL, o_mulI, o_mulT, o_mulL, o_ixL, o_ixT, o_ixW, o_ixC, o_ixS, o_slL, o_slT, o_slS, o_lenL, o_lenT, o_lenW, o_lenC, o_lenD, o_lenS, o_abs, o_intI, o_intB, o_str, o_list, o_tupL, o_tupT, o_isN, o_isNotN, o_isTy, o_neg, t_non, t_bl, t_int, t_str, t_lst, t_tup, t_wtu, t_dic, i_lst, i_tup, i_wtu, i_scr, i_str, q_lst, q_scr, q_tup, q_wtu, o_sort, o_inL, o_inT, o_eqI, o_neI, o_all, o_any, o_sum, o_max2, o_min2, o_eqB, o_neB, o_ixD, o_ixDi, p_str, p_int, s_frzD, hasD_md, small_md, D.seqs, D.tyN, List.getElem?_cons_zero, List.getElem?_cons_succ, List.set_cons_zero, List.set_cons_succ, List.map_cons, List.map_nil, Option.bind_some, Option.map_some, true_and, and_true, and_assoc, startD, Bool.not_true, Bool.not_false, List.length_cons, List.length_nil, List.nil_append, List.cons_append, List.append_nil, List.replicate, Nat.reduceSub, Nat.reduceAdd, Nat.reduceLeDiff, wipeD, unw, freeAt, Option.getD_some, List.all_cons, List.all_nil, Bool.and_true, Bool.and_self, Slot.free, Nat.zero_sub, Nat.sub_zero, Nat.sub_self, Nat.reduceEqDiff, id_eq, decide_true, decide_false, eq_self, c_check_reads, c_next_read]
  refine ⟨ns', rfl, by have := ok'.2.1; omega, fun _ => ?_, fun h => absurd ok' h⟩
  try simp -dsimp only [↓s_var, ↓s_c, ↓s_op, ↓s_test, ↓s_truth, ↓s_chain, ↓s_and, ↓s_or, ↓s_not, ↓s_andV, ↓s_orV, ↓s_notV, ↓s_if, ↓s_un, ↓s_nil, ↓s_cons, ↓s_cb, ↓s_call, ↓s_tup, ↓s_lst, ↓s_nopart, ↓s_part, ↓s_sl, ↓s_app, ↓s_items, ↓s_rng1, ↓s_rng2, ↓s_rng3, ↓s_next, ↓s_seq, ↓s_break, ↓s_cont, ↓s_drop, ↓s_ret, ↓s_retN, ↓s_ifS, ↓s_asg, ↓s_gNm, ↓s_gTup, ↓s_gNil, ↓s_gCons, ↓s_aug, ↓s_par, ↓s_for, ↓s_while, ↓s_lc, ↓s_lc2, ↓s_yes, ↓s_tvs0, ↓s_tvs1, ↓s_tvV, ↓s_tvS, ↓s_rvV, ↓s_rvS, ↓s_enum, ↓s_zip, ↓s_callIO, ↓fin_t, pins_nil, pins_p, pins_v, pins_un, lent1, slotL_s, ↓putB_1, ↓s_setI, ↓s_dput, ↓s_daug, ↓s_dnew, ↓s_disp, ↓s_flat0, ↓s_flat1, ↓s_never, ↓s_raise, ↓s_neverE, mkD, D.key, Option.map_some, dgetM, ↓br_t, ↓br_f, ↓s_fin0, ↓s_ref, ↓s_tupRg, ↓s_lstRg, ↓s_rg1, ↓s_rg2, hide, hideS, s_resV, s_resS, s_resL0, s_resL1, s_slotM, s_setM, s_frz, s_frzL, wD_some, got_v, got_p, ↓gset_un, ↓gset_v, vslot_v, fslot_v, asB_b, asI_i, asT_t, asL_l, hasL_l, one_1, two_2, int1_1, int2_2, int3_3, ix0, ix1, Slot.fr?, Slot.m?, Slot.put, opz_f1, o_iop, b_lt, o_addI, o_addS, o_addT, o_addL, o_mulI, o_mulT, o_mulL, o_ixL, o_ixT, o_ixW, o_ixC, o_ixS, o_slL, o_slT, o_slS, o_lenL, o_lenT, o_lenW, o_lenC, o_lenD, o_lenS, o_abs, o_intI, o_intB, o_str, o_list, o_tupL, o_tupT, o_isN, o_isNotN, o_isTy, o_neg, t_non, t_bl, t_int, t_str, t_lst, t_tup, t_wtu, t_dic, i_lst, i_tup, i_wtu, i_scr, i_str, q_lst, q_scr, q_tup, q_wtu, o_sort, o_inL, o_inT, o_eqI, o_neI, o_all, o_any, o_sum, o_max2, o_min2, o_eqB, o_neB, o_ixD, o_ixDi, p_str, p_int, s_frzD, hasD_md, small_md, D.seqs, D.tyN, List.getElem?_cons_zero, List.getElem?_cons_succ, List.set_cons_zero, List.set_cons_succ, List.map_cons, List.map_nil, Option.bind_some, Option.map_some, true_and, and_true, and_assoc, startD, Bool.not_true, Bool.not_false, List.length_cons, List.length_nil, List.nil_append, List.cons_append, List.append_nil, List.replicate, Nat.reduceSub, Nat.reduceAdd, Nat.reduceLeDiff, wipeD, unw, freeAt, Option.getD_some, List.all_cons, List.all_nil, Bool.and_true, Bool.and_self, Slot.free, Nat.zero_sub, Nat.sub_zero, Nat.sub_self, Nat.reduceEqDiff, id_eq, decide_true, decide_false, eq_self, c_check_reads, c_next_read]
  refine ⟨by decide, by omega, by omega, ?_⟩
  rw [rng_isq]
  refine for_ofE (fun i s => ∃ a b c d, s = [.v (.fz (.int p)), .v (.fz (.tup (ns.map .int))), .v (.fz (.tup (ns'.map .int))), .v (.fz (t3 (((isq 0 p.toNat).take i).foldl (brow (nx p ns) (nx p ns') p) (0, 0, 0)))), a, b, c, d] ∧ a.pinned = false ∧ b.pinned = false ∧ c.pinned = false ∧ d.pinned = false) ⟨_, _, _, _, rfl, rfl, rfl, rfl, rfl⟩ ?_ ?_
  · rintro i x s hx ⟨a, b, c, d, rfl, ha, hb, hc, hd⟩ N B R hN - -
    obtain ⟨hi, rfl⟩ := isq_get hx
    rw [fold_take hx] at hN
    have hge := brows_ge (f := nx p ns) (g := nx p ns') (p := p) (l := (isq 0 p.toNat).take i) (b := (0, 0, 0))
    generalize ((isq 0 p.toNat).take i).foldl (brow (nx p ns) (nx p ns') p) (0, 0, 0) = b0 at hN hge ⊢
    simp -dsimp only [↓s_var, ↓s_c, ↓s_op, ↓s_test, ↓s_truth, ↓s_chain, ↓s_and, ↓s_or, ↓s_not, ↓s_andV, ↓s_orV, ↓s_notV, ↓s_if, ↓s_un, ↓s_nil, ↓s_cons, ↓s_cb, ↓s_call, ↓s_tup, ↓s_lst, ↓s_nopart, ↓s_part, ↓s_sl, ↓s_app, ↓s_items, ↓s_rng1, ↓s_rng2, ↓s_rng3, ↓s_next, ↓s_seq, ↓s_break, ↓s_cont, ↓s_drop, ↓s_ret, ↓s_retN, ↓s_ifS, ↓s_asg, ↓s_gNm, ↓s_gTup, ↓s_gNil, ↓s_gCons, ↓s_aug, ↓s_par, ↓s_for, ↓s_while, ↓s_lc, ↓s_lc2, ↓s_yes, ↓s_tvs0, ↓s_tvs1, ↓s_tvV, ↓s_tvS, ↓s_rvV, ↓s_rvS, ↓s_enum, ↓s_zip, ↓s_callIO, ↓fin_t, pins_nil, pins_p, pins_v, pins_un, lent1, slotL_s, ↓putB_1, ↓s_setI, ↓s_dput, ↓s_daug, ↓s_dnew, ↓s_disp, ↓s_flat0, ↓s_flat1, ↓s_never, ↓s_raise, ↓s_neverE, mkD, D.key, Option.map_some, dgetM, ↓br_t, ↓br_f, ↓s_fin0, ↓s_ref, ↓s_tupRg, ↓s_lstRg, ↓s_rg1, ↓s_rg2, hide, hideS, s_resV, s_resS, s_resL0, s_resL1, s_slotM, s_setM, s_frz, s_frzL, wD_some, got_v, got_p, ↓gset_un, ↓gset_v, vslot_v, fslot_v, asB_b, asI_i, asT_t, asL_l, hasL_l, one_1, two_2, int1_1, int2_2, int3_3, ix0, ix1, Slot.fr?, Slot.m?, Slot.put, opz_f1, o_iop, b_lt, o_addI, o_addS, o_addT, o_addL, o_mulI, o_mulT, o_mulL, o_ixL, o_ixT, o_ixW, o_ixC, o_ixS, o_slL, o_slT, o_slS, o_lenL, o_lenT, o_lenW, o_lenC, o_lenD, o_lenS, o_abs, o_intI, o_intB, o_str, o_list, o_tupL, o_tupT, o_isN, o_isNotN, o_isTy, o_neg, t_non, t_bl, t_int, t_str, t_lst, t_tup, t_wtu, t_dic, i_lst, i_tup, i_wtu, i_scr, i_str, q_lst, q_scr, q_tup, q_wtu, o_sort, o_inL, o_inT, o_eqI, o_neI, o_all, o_any, o_sum, o_max2, o_min2, o_eqB, o_neB, o_ixD, o_ixDi, p_str, p_int, s_frzD, hasD_md, small_md, D.seqs, D.tyN, List.getElem?_cons_zero, List.getElem?_cons_succ, List.set_cons_zero, List.set_cons_succ, List.map_cons, List.map_nil, Option.bind_some, Option.map_some, true_and, and_true, and_assoc, startD, Bool.not_true, Bool.not_false, List.length_cons, List.length_nil, List.nil_append, List.cons_append, List.append_nil, List.replicate, Nat.reduceSub, Nat.reduceAdd, Nat.reduceLeDiff, wipeD, unw, freeAt, Option.getD_some, List.all_cons, List.all_nil, Bool.and_true, Bool.and_self, Slot.free, Nat.zero_sub, Nat.sub_zero, Nat.sub_self, Nat.reduceEqDiff, id_eq, decide_true, decide_false, eq_self, c_check_reads, c_next_read,  gset_free ha]
    refine ⟨by omega, by omega, by omega, by omega, ?_⟩
    rw [rng_isq, show (0 + (i : Int) + p - (0 + (i : Int) - p)).toNat = (2 * p).toNat by omega]
    have hbe := brow_eq ok.n ok'.n (b := b0) hge (0 + (i : Int))
    generalize hx0 : 0 + (i : Int) = x at *
    refine for_ofE (fun j s => ∃ b c d, s = [.v (.fz (.int p)), .v (.fz (.tup (ns.map .int))), .v (.fz (.tup (ns'.map .int))), .v (.fz (t3 (((isq (x - p) (2 * p).toNat).take j).foldl (fun b y => bstep (nx p ns) (nx p ns') b x y) b0))), .v (.fz (.int x)), b, c, d] ∧ b.pinned = false ∧ c.pinned = false ∧ d.pinned = false) ⟨_, _, _, rfl, hb, hc, hd⟩ ?_ ?_
    · rintro j y s hy ⟨b, c, d, rfl, hb, hc, hd⟩ N B R hN - -
      rw [fold_take hy] at hN
      generalize ((isq (x - p) (2 * p).toNat).take j).foldl (fun b y => bstep (nx p ns) (nx p ns') b x y) b0 = b1 at hN ⊢
      simp -dsimp only [↓s_var, ↓s_c, ↓s_op, ↓s_test, ↓s_truth, ↓s_chain, ↓s_and, ↓s_or, ↓s_not, ↓s_andV, ↓s_orV, ↓s_notV, ↓s_if, ↓s_un, ↓s_nil, ↓s_cons, ↓s_cb, ↓s_call, ↓s_tup, ↓s_lst, ↓s_nopart, ↓s_part, ↓s_sl, ↓s_app, ↓s_items, ↓s_rng1, ↓s_rng2, ↓s_rng3, ↓s_next, ↓s_seq, ↓s_break, ↓s_cont, ↓s_drop, ↓s_ret, ↓s_retN, ↓s_ifS, ↓s_asg, ↓s_gNm, ↓s_gTup, ↓s_gNil, ↓s_gCons, ↓s_aug, ↓s_par, ↓s_for, ↓s_while, ↓s_lc, ↓s_lc2, ↓s_yes, ↓s_tvs0, ↓s_tvs1, ↓s_tvV, ↓s_tvS, ↓s_rvV, ↓s_rvS, ↓s_enum, ↓s_zip, ↓s_callIO, ↓fin_t, pins_nil, pins_p, pins_v, pins_un, lent1, slotL_s, ↓putB_1, ↓s_setI, ↓s_dput, ↓s_daug, ↓s_dnew, ↓s_disp, ↓s_flat0, ↓s_flat1, ↓s_never, ↓s_raise, ↓s_neverE, mkD, D.key, Option.map_some, dgetM, ↓br_t, ↓br_f, ↓s_fin0, ↓s_ref, ↓s_tupRg, ↓s_lstRg, ↓s_rg1, ↓s_rg2, hide, hideS, s_resV, s_resS, s_resL0, s_resL1, s_slotM, s_setM, s_frz, s_frzL, wD_some, got_v, got_p, ↓gset_un, ↓gset_v, vslot_v, fslot_v, asB_b, asI_i, asT_t, asL_l, hasL_l, one_1, two_2, int1_1, int2_2, int3_3, ix0, ix1, Slot.fr?, Slot.m?, Slot.put, opz_f1, o_iop, b_lt, o_addI, o_addS, o_addT, o_addL, o_mulI, o_mulT, o_mulL, o_ixL, o_ixT, o_ixW, o_ixC, o_ixS, o_slL, o_slT, o_slS, o_lenL, o_lenT, o_lenW, o_lenC, o_lenD, o_lenS, o_abs, o_intI, o_intB, o_str, o_list, o_tupL, o_tupT, o_isN, o_isNotN, o_isTy, o_neg, t_non, t_bl, t_int, t_str, t_lst, t_tup, t_wtu, t_dic, i_lst, i_tup, i_wtu, i_scr, i_str, q_lst, q_scr, q_tup, q_wtu, o_sort, o_inL, o_inT, o_eqI, o_neI, o_all, o_any, o_sum, o_max2, o_min2, o_eqB, o_neB, o_ixD, o_ixDi, p_str, p_int, s_frzD, hasD_md, small_md, D.seqs, D.tyN, List.getElem?_cons_zero, List.getElem?_cons_succ, List.set_cons_zero, List.set_cons_succ, List.map_cons, List.map_nil, Option.bind_some, Option.map_some, true_and, and_true, and_assoc, startD, Bool.not_true, Bool.not_false, List.length_cons, List.length_nil, List.nil_append, List.cons_append, List.append_nil, List.replicate, Nat.reduceSub, Nat.reduceAdd, Nat.reduceLeDiff, wipeD, unw, freeAt, Option.getD_some, List.all_cons, List.all_nil, Bool.and_true, Bool.and_self, Slot.free, Nat.zero_sub, Nat.sub_zero, Nat.sub_self, Nat.reduceEqDiff, id_eq, decide_true, decide_false, eq_self, c_check_reads, c_next_read,  gset_free hb, gset_free hc]
      refine ⟨ns, rfl, by have := ok.2.1; omega, fun _ => ?_, fun h => absurd ok h⟩
      try simp -dsimp only [↓s_var, ↓s_c, ↓s_op, ↓s_test, ↓s_truth, ↓s_chain, ↓s_and, ↓s_or, ↓s_not, ↓s_andV, ↓s_orV, ↓s_notV, ↓s_if, ↓s_un, ↓s_nil, ↓s_cons, ↓s_cb, ↓s_call, ↓s_tup, ↓s_lst, ↓s_nopart, ↓s_part, ↓s_sl, ↓s_app, ↓s_items, ↓s_rng1, ↓s_rng2, ↓s_rng3, ↓s_next, ↓s_seq, ↓s_break, ↓s_cont, ↓s_drop, ↓s_ret, ↓s_retN, ↓s_ifS, ↓s_asg, ↓s_gNm, ↓s_gTup, ↓s_gNil, ↓s_gCons, ↓s_aug, ↓s_par, ↓s_for, ↓s_while, ↓s_lc, ↓s_lc2, ↓s_yes, ↓s_tvs0, ↓s_tvs1, ↓s_tvV, ↓s_tvS, ↓s_rvV, ↓s_rvS, ↓s_enum, ↓s_zip, ↓s_callIO, ↓fin_t, pins_nil, pins_p, pins_v, pins_un, lent1, slotL_s, ↓putB_1, ↓s_setI, ↓s_dput, ↓s_daug, ↓s_dnew, ↓s_disp, ↓s_flat0, ↓s_flat1, ↓s_never, ↓s_raise, ↓s_neverE, mkD, D.key, Option.map_some, dgetM, ↓br_t, ↓br_f, ↓s_fin0, ↓s_ref, ↓s_tupRg, ↓s_lstRg, ↓s_rg1, ↓s_rg2, hide, hideS, s_resV, s_resS, s_resL0, s_resL1, s_slotM, s_setM, s_frz, s_frzL, wD_some, got_v, got_p, ↓gset_un, ↓gset_v, vslot_v, fslot_v, asB_b, asI_i, asT_t, asL_l, hasL_l, one_1, two_2, int1_1, int2_2, int3_3, ix0, ix1, Slot.fr?, Slot.m?, Slot.put, opz_f1, o_iop, b_lt, o_addI, o_addS, o_addT, o_addL, o_mulI, o_mulT, o_mulL, o_ixL, o_ixT, o_ixW, o_ixC, o_ixS, o_slL, o_slT, o_slS, o_lenL, o_lenT, o_lenW, o_lenC, o_lenD, o_lenS, o_abs, o_intI, o_intB, o_str, o_list, o_tupL, o_tupT, o_isN, o_isNotN, o_isTy, o_neg, t_non, t_bl, t_int, t_str, t_lst, t_tup, t_wtu, t_dic, i_lst, i_tup, i_wtu, i_scr, i_str, q_lst, q_scr, q_tup, q_wtu, o_sort, o_inL, o_inT, o_eqI, o_neI, o_all, o_any, o_sum, o_max2, o_min2, o_eqB, o_neB, o_ixD, o_ixDi, p_str, p_int, s_frzD, hasD_md, small_md, D.seqs, D.tyN, List.getElem?_cons_zero, List.getElem?_cons_succ, List.set_cons_zero, List.set_cons_succ, List.map_cons, List.map_nil, Option.bind_some, Option.map_some, true_and, and_true, and_assoc, startD, Bool.not_true, Bool.not_false, List.length_cons, List.length_nil, List.nil_append, List.cons_append, List.append_nil, List.replicate, Nat.reduceSub, Nat.reduceAdd, Nat.reduceLeDiff, wipeD, unw, freeAt, Option.getD_some, List.all_cons, List.all_nil, Bool.and_true, Bool.and_self, Slot.free, Nat.zero_sub, Nat.sub_zero, Nat.sub_self, Nat.reduceEqDiff, id_eq, decide_true, decide_false, eq_self, c_check_reads, c_next_read]
      refine ⟨ns', rfl, by have := ok'.2.1; omega, fun _ => ?_, fun h => absurd ok' h⟩
      unfold t3
      simp -dsimp only [↓s_var, ↓s_c, ↓s_op, ↓s_test, ↓s_truth, ↓s_chain, ↓s_and, ↓s_or, ↓s_not, ↓s_andV, ↓s_orV, ↓s_notV, ↓s_if, ↓s_un, ↓s_nil, ↓s_cons, ↓s_cb, ↓s_call, ↓s_tup, ↓s_lst, ↓s_nopart, ↓s_part, ↓s_sl, ↓s_app, ↓s_items, ↓s_rng1, ↓s_rng2, ↓s_rng3, ↓s_next, ↓s_seq, ↓s_break, ↓s_cont, ↓s_drop, ↓s_ret, ↓s_retN, ↓s_ifS, ↓s_asg, ↓s_gNm, ↓s_gTup, ↓s_gNil, ↓s_gCons, ↓s_aug, ↓s_par, ↓s_for, ↓s_while, ↓s_lc, ↓s_lc2, ↓s_yes, ↓s_tvs0, ↓s_tvs1, ↓s_tvV, ↓s_tvS, ↓s_rvV, ↓s_rvS, ↓s_enum, ↓s_zip, ↓s_callIO, ↓fin_t, pins_nil, pins_p, pins_v, pins_un, lent1, slotL_s, ↓putB_1, ↓s_setI, ↓s_dput, ↓s_daug, ↓s_dnew, ↓s_disp, ↓s_flat0, ↓s_flat1, ↓s_never, ↓s_raise, ↓s_neverE, mkD, D.key, Option.map_some, dgetM, ↓br_t, ↓br_f, ↓s_fin0, ↓s_ref, ↓s_tupRg, ↓s_lstRg, ↓s_rg1, ↓s_rg2, hide, hideS, s_resV, s_resS, s_resL0, s_resL1, s_slotM, s_setM, s_frz, s_frzL, wD_some, got_v, got_p, ↓gset_un, ↓gset_v, vslot_v, fslot_v, asB_b, asI_i, asT_t, asL_l, hasL_l, one_1, two_2, int1_1, int2_2, int3_3, ix0, ix1, Slot.fr?, Slot.m?, Slot.put, opz_f1, o_iop, b_lt, o_addI, o_addS, o_addT, o_addL, o_mulI, o_mulT, o_mulL, o_ixL, o_ixT, o_ixW, o_ixC, o_ixS, o_slL, o_slT, o_slS, o_lenL, o_lenT, o_lenW, o_lenC, o_lenD, o_lenS, o_abs, o_intI, o_intB, o_str, o_list, o_tupL, o_tupT, o_isN, o_isNotN, o_isTy, o_neg, t_non, t_bl, t_int, t_str, t_lst, t_tup, t_wtu, t_dic, i_lst, i_tup, i_wtu, i_scr, i_str, q_lst, q_scr, q_tup, q_wtu, o_sort, o_inL, o_inT, o_eqI, o_neI, o_all, o_any, o_sum, o_max2, o_min2, o_eqB, o_neB, o_ixD, o_ixDi, p_str, p_int, s_frzD, hasD_md, small_md, D.seqs, D.tyN, List.getElem?_cons_zero, List.getElem?_cons_succ, List.set_cons_zero, List.set_cons_succ, List.map_cons, List.map_nil, Option.bind_some, Option.map_some, true_and, and_true, and_assoc, startD, Bool.not_true, Bool.not_false, List.length_cons, List.length_nil, List.nil_append, List.cons_append, List.append_nil, List.replicate, Nat.reduceSub, Nat.reduceAdd, Nat.reduceLeDiff, wipeD, unw, freeAt, Option.getD_some, List.all_cons, List.all_nil, Bool.and_true, Bool.and_self, Slot.free, Nat.zero_sub, Nat.sub_zero, Nat.sub_self, Nat.reduceEqDiff, id_eq, decide_true, decide_false, eq_self, c_check_reads, c_next_read,  gset_free hd]
      unfold bstep at hN
      simp only [min_if, max_if]
      refine br_dec (fun h => ?_) (fun h => ?_)
      · simp -dsimp only [↓s_var, ↓s_c, ↓s_op, ↓s_test, ↓s_truth, ↓s_chain, ↓s_and, ↓s_or, ↓s_not, ↓s_andV, ↓s_orV, ↓s_notV, ↓s_if, ↓s_un, ↓s_nil, ↓s_cons, ↓s_cb, ↓s_call, ↓s_tup, ↓s_lst, ↓s_nopart, ↓s_part, ↓s_sl, ↓s_app, ↓s_items, ↓s_rng1, ↓s_rng2, ↓s_rng3, ↓s_next, ↓s_seq, ↓s_break, ↓s_cont, ↓s_drop, ↓s_ret, ↓s_retN, ↓s_ifS, ↓s_asg, ↓s_gNm, ↓s_gTup, ↓s_gNil, ↓s_gCons, ↓s_aug, ↓s_par, ↓s_for, ↓s_while, ↓s_lc, ↓s_lc2, ↓s_yes, ↓s_tvs0, ↓s_tvs1, ↓s_tvV, ↓s_tvS, ↓s_rvV, ↓s_rvS, ↓s_enum, ↓s_zip, ↓s_callIO, ↓fin_t, pins_nil, pins_p, pins_v, pins_un, lent1, slotL_s, ↓putB_1, ↓s_setI, ↓s_dput, ↓s_daug, ↓s_dnew, ↓s_disp, ↓s_flat0, ↓s_flat1, ↓s_never, ↓s_raise, ↓s_neverE, mkD, D.key, Option.map_some, dgetM, ↓br_t, ↓br_f, ↓s_fin0, ↓s_ref, ↓s_tupRg, ↓s_lstRg, ↓s_rg1, ↓s_rg2, hide, hideS, s_resV, s_resS, s_resL0, s_resL1, s_slotM, s_setM, s_frz, s_frzL, wD_some, got_v, got_p, ↓gset_un, ↓gset_v, vslot_v, fslot_v, asB_b, asI_i, asT_t, asL_l, hasL_l, one_1, two_2, int1_1, int2_2, int3_3, ix0, ix1, Slot.fr?, Slot.m?, Slot.put, opz_f1, o_iop, b_lt, o_addI, o_addS, o_addT, o_addL, o_mulI, o_mulT, o_mulL, o_ixL, o_ixT, o_ixW, o_ixC, o_ixS, o_slL, o_slT, o_slS, o_lenL, o_lenT, o_lenW, o_lenC, o_lenD, o_lenS, o_abs, o_intI, o_intB, o_str, o_list, o_tupL, o_tupT, o_isN, o_isNotN, o_isTy, o_neg, t_non, t_bl, t_int, t_str, t_lst, t_tup, t_wtu, t_dic, i_lst, i_tup, i_wtu, i_scr, i_str, q_lst, q_scr, q_tup, q_wtu, o_sort, o_inL, o_inT, o_eqI, o_neI, o_all, o_any, o_sum, o_max2, o_min2, o_eqB, o_neB, o_ixD, o_ixDi, p_str, p_int, s_frzD, hasD_md, small_md, D.seqs, D.tyN, List.getElem?_cons_zero, List.getElem?_cons_succ, List.set_cons_zero, List.set_cons_succ, List.map_cons, List.map_nil, Option.bind_some, Option.map_some, true_and, and_true, and_assoc, startD, Bool.not_true, Bool.not_false, List.length_cons, List.length_nil, List.nil_append, List.cons_append, List.append_nil, List.replicate, Nat.reduceSub, Nat.reduceAdd, Nat.reduceLeDiff, wipeD, unw, freeAt, Option.getD_some, List.all_cons, List.all_nil, Bool.and_true, Bool.and_self, Slot.free, Nat.zero_sub, Nat.sub_zero, Nat.sub_self, Nat.reduceEqDiff, id_eq, decide_true, decide_false, eq_self, c_check_reads, c_next_read,  min_if, max_if]
        rw [if_pos h] at hN
        exact ⟨by decide, hN _ ⟨_, _, _, rfl, rfl, rfl, rfl⟩⟩
      · simp -dsimp only [↓s_var, ↓s_c, ↓s_op, ↓s_test, ↓s_truth, ↓s_chain, ↓s_and, ↓s_or, ↓s_not, ↓s_andV, ↓s_orV, ↓s_notV, ↓s_if, ↓s_un, ↓s_nil, ↓s_cons, ↓s_cb, ↓s_call, ↓s_tup, ↓s_lst, ↓s_nopart, ↓s_part, ↓s_sl, ↓s_app, ↓s_items, ↓s_rng1, ↓s_rng2, ↓s_rng3, ↓s_next, ↓s_seq, ↓s_break, ↓s_cont, ↓s_drop, ↓s_ret, ↓s_retN, ↓s_ifS, ↓s_asg, ↓s_gNm, ↓s_gTup, ↓s_gNil, ↓s_gCons, ↓s_aug, ↓s_par, ↓s_for, ↓s_while, ↓s_lc, ↓s_lc2, ↓s_yes, ↓s_tvs0, ↓s_tvs1, ↓s_tvV, ↓s_tvS, ↓s_rvV, ↓s_rvS, ↓s_enum, ↓s_zip, ↓s_callIO, ↓fin_t, pins_nil, pins_p, pins_v, pins_un, lent1, slotL_s, ↓putB_1, ↓s_setI, ↓s_dput, ↓s_daug, ↓s_dnew, ↓s_disp, ↓s_flat0, ↓s_flat1, ↓s_never, ↓s_raise, ↓s_neverE, mkD, D.key, Option.map_some, dgetM, ↓br_t, ↓br_f, ↓s_fin0, ↓s_ref, ↓s_tupRg, ↓s_lstRg, ↓s_rg1, ↓s_rg2, hide, hideS, s_resV, s_resS, s_resL0, s_resL1, s_slotM, s_setM, s_frz, s_frzL, wD_some, got_v, got_p, ↓gset_un, ↓gset_v, vslot_v, fslot_v, asB_b, asI_i, asT_t, asL_l, hasL_l, one_1, two_2, int1_1, int2_2, int3_3, ix0, ix1, Slot.fr?, Slot.m?, Slot.put, opz_f1, o_iop, b_lt, o_addI, o_addS, o_addT, o_addL, o_mulI, o_mulT, o_mulL, o_ixL, o_ixT, o_ixW, o_ixC, o_ixS, o_slL, o_slT, o_slS, o_lenL, o_lenT, o_lenW, o_lenC, o_lenD, o_lenS, o_abs, o_intI, o_intB, o_str, o_list, o_tupL, o_tupT, o_isN, o_isNotN, o_isTy, o_neg, t_non, t_bl, t_int, t_str, t_lst, t_tup, t_wtu, t_dic, i_lst, i_tup, i_wtu, i_scr, i_str, q_lst, q_scr, q_tup, q_wtu, o_sort, o_inL, o_inT, o_eqI, o_neI, o_all, o_any, o_sum, o_max2, o_min2, o_eqB, o_neB, o_ixD, o_ixDi, p_str, p_int, s_frzD, hasD_md, small_md, D.seqs, D.tyN, List.getElem?_cons_zero, List.getElem?_cons_succ, List.set_cons_zero, List.set_cons_succ, List.map_cons, List.map_nil, Option.bind_some, Option.map_some, true_and, and_true, and_assoc, startD, Bool.not_true, Bool.not_false, List.length_cons, List.length_nil, List.nil_append, List.cons_append, List.append_nil, List.replicate, Nat.reduceSub, Nat.reduceAdd, Nat.reduceLeDiff, wipeD, unw, freeAt, Option.getD_some, List.all_cons, List.all_nil, Bool.and_true, Bool.and_self, Slot.free, Nat.zero_sub, Nat.sub_zero, Nat.sub_self, Nat.reduceEqDiff, id_eq, decide_true, decide_false, eq_self, c_check_reads, c_next_read]
        rw [if_neg h] at hN
        exact hN _ ⟨_, _, _, rfl, rfl, rfl, rfl⟩
    · rintro s ⟨b, c, d, rfl, hb, hc, hd⟩
      rw [List.take_length, hbe]
      exact hN _ ⟨_, _, _, _, rfl, rfl, hb, hc, hd⟩
  · rintro s ⟨a, b, c, d, rfl, ha, hb, hc, hd⟩
    rw [List.take_length]
    simp -dsimp only [↓s_var, ↓s_c, ↓s_op, ↓s_test, ↓s_truth, ↓s_chain, ↓s_and, ↓s_or, ↓s_not, ↓s_andV, ↓s_orV, ↓s_notV, ↓s_if, ↓s_un, ↓s_nil, ↓s_cons, ↓s_cb, ↓s_call, ↓s_tup, ↓s_lst, ↓s_nopart, ↓s_part, ↓s_sl, ↓s_app, ↓s_items, ↓s_rng1, ↓s_rng2, ↓s_rng3, ↓s_next, ↓s_seq, ↓s_break, ↓s_cont, ↓s_drop, ↓s_ret, ↓s_retN, ↓s_ifS, ↓s_asg, ↓s_gNm, ↓s_gTup, ↓s_gNil, ↓s_gCons, ↓s_aug, ↓s_par, ↓s_for, ↓s_while, ↓s_lc, ↓s_lc2, ↓s_yes, ↓s_tvs0, ↓s_tvs1, ↓s_tvV, ↓s_tvS, ↓s_rvV, ↓s_rvS, ↓s_enum, ↓s_zip, ↓s_callIO, ↓fin_t, pins_nil, pins_p, pins_v, pins_un, lent1, slotL_s, ↓putB_1, ↓s_setI, ↓s_dput, ↓s_daug, ↓s_dnew, ↓s_disp, ↓s_flat0, ↓s_flat1, ↓s_never, ↓s_raise, ↓s_neverE, mkD, D.key, Option.map_some, dgetM, ↓br_t, ↓br_f, ↓s_fin0, ↓s_ref, ↓s_tupRg, ↓s_lstRg, ↓s_rg1, ↓s_rg2, hide, hideS, s_resV, s_resS, s_resL0, s_resL1, s_slotM, s_setM, s_frz, s_frzL, wD_some, got_v, got_p, ↓gset_un, ↓gset_v, vslot_v, fslot_v, asB_b, asI_i, asT_t, asL_l, hasL_l, one_1, two_2, int1_1, int2_2, int3_3, ix0, ix1, Slot.fr?, Slot.m?, Slot.put, opz_f1, o_iop, b_lt, o_addI, o_addS, o_addT, o_addL, o_mulI, o_mulT, o_mulL, o_ixL, o_ixT, o_ixW, o_ixC, o_ixS, o_slL, o_slT, o_slS, o_lenL, o_lenT, o_lenW, o_lenC, o_lenD, o_lenS, o_abs, o_intI, o_intB, o_str, o_list, o_tupL, o_tupT, o_isN, o_isNotN, o_isTy, o_neg, t_non, t_bl, t_int, t_str, t_lst, t_tup, t_wtu, t_dic, i_lst, i_tup, i_wtu, i_scr, i_str, q_lst, q_scr, q_tup, q_wtu, o_sort, o_inL, o_inT, o_eqI, o_neI, o_all, o_any, o_sum, o_max2, o_min2, o_eqB, o_neB, o_ixD, o_ixDi, p_str, p_int, s_frzD, hasD_md, small_md, D.seqs, D.tyN, List.getElem?_cons_zero, List.getElem?_cons_succ, List.set_cons_zero, List.set_cons_succ, List.map_cons, List.map_nil, Option.bind_some, Option.map_some, true_and, and_true, and_assoc, startD, Bool.not_true, Bool.not_false, List.length_cons, List.length_nil, List.nil_append, List.cons_append, List.append_nil, List.replicate, Nat.reduceSub, Nat.reduceAdd, Nat.reduceLeDiff, wipeD, unw, freeAt, Option.getD_some, List.all_cons, List.all_nil, Bool.and_true, Bool.and_self, Slot.free, Nat.zero_sub, Nat.sub_zero, Nat.sub_self, Nat.reduceEqDiff, id_eq, decide_true, decide_false, eq_self, c_check_reads, c_next_read]
    exact h2
/-! ### least_reads -/
def c_least_reads (IP : Addr) : CT
  | [.fz (.int p), .fz (.int L)], R, X => (1 ≤ p ∧ p ≤ 60 ∧ 0 ≤ L ∧ L ≤ 1000 ∧ cdiv p (L + 1) ≤ 8 → R (.fz (tupI (lr p L))) []) ∧ (1 ≤ p ∧ p ≤ 60 ∧ 0 ≤ L ∧ L ≤ 1000 ∧ 8 < cdiv p (L + 1) → X (.ref IP) none []) ∧ (L < 0 → X (.ref IP) none []) ∧ (1 ≤ p ∧ p ≤ 60 ∧ 0 ≤ L ∧ L ≤ 1000 ∨ L < 0)
  | _, _, _ => False
theorem sc_least_reads : FnScope N_least_reads ["period", "most"] (defScope s_least_reads) := ⟨rfl, rfl, rfl, by decide +kernel, rfl, by decide +kernel, by decide +kernel⟩
theorem ok_least_reads (T : Txt K mg C_InvalidPlan) (F : TopFn K mg "least_reads" s_least_reads ["period", "most"]) : FnAt P w K mg base TB 1 "least_reads" ["period", "most"] false (c_least_reads C_InvalidPlan) := by
  have nd := sc_least_reads.nd
  refine fnAt F sc_least_reads (fun ms R X h => by unfold c_least_reads at h; split at h <;> first | rfl | exact h.elim) (fun h => by cases h) fun f cdv A outer s H E x0 Xd hr => ?_
  refine ⟨_, _, (dss_cons (ds_if (DW.pt (dw_or (dt_not (dt_chain op_le od_le op_le od_le de_int (dv 0) (de_gint T.c_MOST_PERIOD))) (dw_or1 (dt_not (dt_cmp op_le od_le de_int (dv 1) (nomark _))))))
      (dss_one (ds_raiseC T.x_InvalidPlan rfl takesD rfl))
      dss_nil)
      (dss_cons (ds_set (i := 2) nd rfl (by first | exact Or.inl rfl | exact Or.inr rfl) (de_neg (de_op op_fdivA od_fdiv (de_neg (dv 0)) (de_op (op_addA rfl) od_add (dv 1) de_int))))
      (dss_cons (ds_if (dt_cmp op_gt od_gt (dv 2) (de_gint T.c_MOST_READS) (nomark _))
      (dss_one (ds_raiseC T.x_InvalidPlan rfl takesD rfl))
      dss_nil)
      (dss_cons (ds_set (i := 3) nd rfl (by first | exact Or.inl rfl | exact Or.inr rfl) (de_lst da_nil))
      (dss_cons (ds_set (i := 4) nd rfl (by first | exact Or.inl rfl | exact Or.inr rfl) de_int)
      (dss_cons (ds_for passD rfl (di_rng3 (by rfl) T.n_range (da_cons (dv 2) (da_cons de_int (da_cons (de_neg de_int) da_nil)))) (dg_name (i := 5) nd rfl (by first | exact Or.inl rfl | exact Or.inr rfl))
      (dss_cons (ds_expr (de_append (i := 3) rfl (da_cons (dv 4) da_nil)))
      (dss_one (ds_set (i := 4) nd rfl (by first | exact Or.inl rfl | exact Or.inr rfl) (de_callB (call_maxA rfl rfl) cd_max (by rfl) T.n_max bo_max (da_cons (de_op (op_addA rfl) od_add (dv 4) de_int) (da_cons (de_op op_sub od_sub (dv 0) (de_op (op_mulA rfl) od_mul (de_op op_sub od_sub (dv 5) de_int) (de_op (op_addA rfl) od_add (dv 1) de_int))) da_nil)))))))
      (dss_one (ds_ret (de_callTy (call_tupleA rfl) cd_tuple (by rfl) T.n_tuple bo_tuple (da_cons (dv 3) da_nil)))))))))), ?_⟩
  intro ms Rd h
  unfold c_least_reads at h
  split at h <;> first | exact (show False from h).elim | skip
  rename_i p L
  obtain ⟨h1, h2, h3, h4⟩ := h
  repeat' (first | refine br_dec (fun h => ?_) (fun h => ?_) | refine br_ndec (fun h => ?_) (fun h => ?_) | simp -dsimp only [↓s_var, ↓s_c, ↓s_op, ↓s_test, ↓s_truth, ↓s_chain, ↓s_and, ↓s_or, ↓s_not, ↓s_andV, ↓s_orV, ↓s_notV, ↓s_if, ↓s_un, ↓s_nil, ↓s_cons, ↓s_cb, ↓s_call, ↓s_tup, ↓s_lst, ↓s_nopart, ↓s_part, ↓s_sl, ↓s_app, ↓s_items, ↓s_rng1, ↓s_rng2, ↓s_rng3, ↓s_next, ↓s_seq, ↓s_break, ↓s_cont, ↓s_drop, ↓s_ret, ↓s_retN, ↓s_ifS, ↓s_asg, ↓s_gNm, ↓s_gTup, ↓s_gNil, ↓s_gCons, ↓s_aug, ↓s_par, ↓s_for, ↓s_while, ↓s_lc, ↓s_lc2, ↓s_yes, ↓s_tvs0, ↓s_tvs1, ↓s_tvV, ↓s_tvS, ↓s_rvV, ↓s_rvS, ↓s_enum, ↓s_zip, ↓s_callIO, ↓fin_t, pins_nil, pins_p, pins_v, pins_un, lent1, slotL_s, ↓putB_1, ↓s_setI, ↓s_dput, ↓s_daug, ↓s_dnew, ↓s_disp, ↓s_flat0, ↓s_flat1, ↓s_never, ↓s_raise, ↓s_neverE, mkD, D.key, Option.map_some, dgetM, ↓br_t, ↓br_f, ↓s_fin0, ↓s_ref, ↓s_tupRg, ↓s_lstRg, ↓s_rg1, ↓s_rg2, hide, hideS, s_resV, s_resS, s_resL0, s_resL1, s_slotM, s_setM, s_frz, s_frzL, wD_some, got_v, got_p, ↓gset_un, ↓gset_v, vslot_v, fslot_v, asB_b, asI_i, asT_t, asL_l, hasL_l, one_1, two_2, int1_1, int2_2, int3_3, ix0, ix1, Slot.fr?, Slot.m?, Slot.put, opz_f1, o_iop, b_lt, o_addI, o_addS, o_addT, o_addL, o_mulI, o_mulT, o_mulL, o_ixL, o_ixT, o_ixW, o_ixC, o_ixS, o_slL, o_slT, o_slS, o_lenL, o_lenT, o_lenW, o_lenC, o_lenD, o_lenS, o_abs, o_intI, o_intB, o_str, o_list, o_tupL, o_tupT, o_isN, o_isNotN, o_isTy, o_neg, t_non, t_bl, t_int, t_str, t_lst, t_tup, t_wtu, t_dic, i_lst, i_tup, i_wtu, i_scr, i_str, q_lst, q_scr, q_tup, q_wtu, o_sort, o_inL, o_inT, o_eqI, o_neI, o_all, o_any, o_sum, o_max2, o_min2, o_eqB, o_neB, o_ixD, o_ixDi, p_str, p_int, s_frzD, hasD_md, small_md, D.seqs, D.tyN, List.getElem?_cons_zero, List.getElem?_cons_succ, List.set_cons_zero, List.set_cons_succ, List.map_cons, List.map_nil, Option.bind_some, Option.map_some, true_and, and_true, and_assoc, startD, Bool.not_true, Bool.not_false, List.length_cons, List.length_nil, List.nil_append, List.cons_append, List.append_nil, List.replicate, Nat.reduceSub, Nat.reduceAdd, Nat.reduceLeDiff, wipeD, unw, freeAt, Option.getD_some, List.all_cons, List.all_nil, Bool.and_true, Bool.and_self, Slot.free, Nat.zero_sub, Nat.sub_zero, Nat.sub_self, Nat.reduceEqDiff, id_eq, decide_true, decide_false, eq_self])
  all_goals try exact h3 (by omega)
  · have hc : 1 ≤ p ∧ p ≤ 60 ∧ 0 ≤ L ∧ L ≤ 1000 := by omega
    have efd : -(-p).fdiv (L + 1) = cdiv p (L + 1) := by unfold cdiv; rw [Int.fdiv_eq_ediv_of_nonneg _ (by omega)]
    rw [efd]
    refine ⟨cfd_r (by omega) (by omega), br_dec (fun h => ?_) (fun h => ?_)⟩
    · simp -dsimp only [↓s_var, ↓s_c, ↓s_op, ↓s_test, ↓s_truth, ↓s_chain, ↓s_and, ↓s_or, ↓s_not, ↓s_andV, ↓s_orV, ↓s_notV, ↓s_if, ↓s_un, ↓s_nil, ↓s_cons, ↓s_cb, ↓s_call, ↓s_tup, ↓s_lst, ↓s_nopart, ↓s_part, ↓s_sl, ↓s_app, ↓s_items, ↓s_rng1, ↓s_rng2, ↓s_rng3, ↓s_next, ↓s_seq, ↓s_break, ↓s_cont, ↓s_drop, ↓s_ret, ↓s_retN, ↓s_ifS, ↓s_asg, ↓s_gNm, ↓s_gTup, ↓s_gNil, ↓s_gCons, ↓s_aug, ↓s_par, ↓s_for, ↓s_while, ↓s_lc, ↓s_lc2, ↓s_yes, ↓s_tvs0, ↓s_tvs1, ↓s_tvV, ↓s_tvS, ↓s_rvV, ↓s_rvS, ↓s_enum, ↓s_zip, ↓s_callIO, ↓fin_t, pins_nil, pins_p, pins_v, pins_un, lent1, slotL_s, ↓putB_1, ↓s_setI, ↓s_dput, ↓s_daug, ↓s_dnew, ↓s_disp, ↓s_flat0, ↓s_flat1, ↓s_never, ↓s_raise, ↓s_neverE, mkD, D.key, Option.map_some, dgetM, ↓br_t, ↓br_f, ↓s_fin0, ↓s_ref, ↓s_tupRg, ↓s_lstRg, ↓s_rg1, ↓s_rg2, hide, hideS, s_resV, s_resS, s_resL0, s_resL1, s_slotM, s_setM, s_frz, s_frzL, wD_some, got_v, got_p, ↓gset_un, ↓gset_v, vslot_v, fslot_v, asB_b, asI_i, asT_t, asL_l, hasL_l, one_1, two_2, int1_1, int2_2, int3_3, ix0, ix1, Slot.fr?, Slot.m?, Slot.put, opz_f1, o_iop, b_lt, o_addI, o_addS, o_addT, o_addL, o_mulI, o_mulT, o_mulL, o_ixL, o_ixT, o_ixW, o_ixC, o_ixS, o_slL, o_slT, o_slS, o_lenL, o_lenT, o_lenW, o_lenC, o_lenD, o_lenS, o_abs, o_intI, o_intB, o_str, o_list, o_tupL, o_tupT, o_isN, o_isNotN, o_isTy, o_neg, t_non, t_bl, t_int, t_str, t_lst, t_tup, t_wtu, t_dic, i_lst, i_tup, i_wtu, i_scr, i_str, q_lst, q_scr, q_tup, q_wtu, o_sort, o_inL, o_inT, o_eqI, o_neI, o_all, o_any, o_sum, o_max2, o_min2, o_eqB, o_neB, o_ixD, o_ixDi, p_str, p_int, s_frzD, hasD_md, small_md, D.seqs, D.tyN, List.getElem?_cons_zero, List.getElem?_cons_succ, List.set_cons_zero, List.set_cons_succ, List.map_cons, List.map_nil, Option.bind_some, Option.map_some, true_and, and_true, and_assoc, startD, Bool.not_true, Bool.not_false, List.length_cons, List.length_nil, List.nil_append, List.cons_append, List.append_nil, List.replicate, Nat.reduceSub, Nat.reduceAdd, Nat.reduceLeDiff, wipeD, unw, freeAt, Option.getD_some, List.all_cons, List.all_nil, Bool.and_true, Bool.and_self, Slot.free, Nat.zero_sub, Nat.sub_zero, Nat.sub_self, Nat.reduceEqDiff, id_eq, decide_true, decide_false, eq_self]
      exact h2 (by omega)
    · simp -dsimp only [↓s_var, ↓s_c, ↓s_op, ↓s_test, ↓s_truth, ↓s_chain, ↓s_and, ↓s_or, ↓s_not, ↓s_andV, ↓s_orV, ↓s_notV, ↓s_if, ↓s_un, ↓s_nil, ↓s_cons, ↓s_cb, ↓s_call, ↓s_tup, ↓s_lst, ↓s_nopart, ↓s_part, ↓s_sl, ↓s_app, ↓s_items, ↓s_rng1, ↓s_rng2, ↓s_rng3, ↓s_next, ↓s_seq, ↓s_break, ↓s_cont, ↓s_drop, ↓s_ret, ↓s_retN, ↓s_ifS, ↓s_asg, ↓s_gNm, ↓s_gTup, ↓s_gNil, ↓s_gCons, ↓s_aug, ↓s_par, ↓s_for, ↓s_while, ↓s_lc, ↓s_lc2, ↓s_yes, ↓s_tvs0, ↓s_tvs1, ↓s_tvV, ↓s_tvS, ↓s_rvV, ↓s_rvS, ↓s_enum, ↓s_zip, ↓s_callIO, ↓fin_t, pins_nil, pins_p, pins_v, pins_un, lent1, slotL_s, ↓putB_1, ↓s_setI, ↓s_dput, ↓s_daug, ↓s_dnew, ↓s_disp, ↓s_flat0, ↓s_flat1, ↓s_never, ↓s_raise, ↓s_neverE, mkD, D.key, Option.map_some, dgetM, ↓br_t, ↓br_f, ↓s_fin0, ↓s_ref, ↓s_tupRg, ↓s_lstRg, ↓s_rg1, ↓s_rg2, hide, hideS, s_resV, s_resS, s_resL0, s_resL1, s_slotM, s_setM, s_frz, s_frzL, wD_some, got_v, got_p, ↓gset_un, ↓gset_v, vslot_v, fslot_v, asB_b, asI_i, asT_t, asL_l, hasL_l, one_1, two_2, int1_1, int2_2, int3_3, ix0, ix1, Slot.fr?, Slot.m?, Slot.put, opz_f1, o_iop, b_lt, o_addI, o_addS, o_addT, o_addL, o_mulI, o_mulT, o_mulL, o_ixL, o_ixT, o_ixW, o_ixC, o_ixS, o_slL, o_slT, o_slS, o_lenL, o_lenT, o_lenW, o_lenC, o_lenD, o_lenS, o_abs, o_intI, o_intB, o_str, o_list, o_tupL, o_tupT, o_isN, o_isNotN, o_isTy, o_neg, t_non, t_bl, t_int, t_str, t_lst, t_tup, t_wtu, t_dic, i_lst, i_tup, i_wtu, i_scr, i_str, q_lst, q_scr, q_tup, q_wtu, o_sort, o_inL, o_inT, o_eqI, o_neI, o_all, o_any, o_sum, o_max2, o_min2, o_eqB, o_neB, o_ixD, o_ixDi, p_str, p_int, s_frzD, hasD_md, small_md, D.seqs, D.tyN, List.getElem?_cons_zero, List.getElem?_cons_succ, List.set_cons_zero, List.set_cons_succ, List.map_cons, List.map_nil, Option.bind_some, Option.map_some, true_and, and_true, and_assoc, startD, Bool.not_true, Bool.not_false, List.length_cons, List.length_nil, List.nil_append, List.cons_append, List.append_nil, List.replicate, Nat.reduceSub, Nat.reduceAdd, Nat.reduceLeDiff, wipeD, unw, freeAt, Option.getD_some, List.all_cons, List.all_nil, Bool.and_true, Bool.and_self, Slot.free, Nat.zero_sub, Nat.sub_zero, Nat.sub_self, Nat.reduceEqDiff, id_eq, decide_true, decide_false, eq_self,  efd]
      have hcd : 1 ≤ cdiv p (L + 1) := by
        unfold cdiv
        have : (-p) / (L + 1) < 0 := Int.ediv_neg_of_neg_of_pos (by omega) (by omega)
        omega
      refine ⟨by decide, _, RgC.neg (by omega) (by omega) (by omega) (by omega), ?_⟩
      refine for_rngC (fun i s => ∃ (acc : List Int) (at' : Int) (a : DL.Slot), s = [.v (.fz (.int p)), .v (.fz (.int L)), .v (.fz (.int (cdiv p (L + 1)))), .v (.ml (acc.map .int)), .v (.fz (.int at')), a] ∧ a.pinned = false ∧ acc.length = i ∧ acc ++ lrA p (L + 1) ((cdiv p (L + 1)).toNat - i) at' = lr p L) ⟨[], 0, _, rfl, rfl, rfl, rfl⟩ ?_ ?_
      · rintro i s hi ⟨acc, at', a, rfl, ha, hl, he⟩ N B R hN - -
        simp -dsimp only [↓s_var, ↓s_c, ↓s_op, ↓s_test, ↓s_truth, ↓s_chain, ↓s_and, ↓s_or, ↓s_not, ↓s_andV, ↓s_orV, ↓s_notV, ↓s_if, ↓s_un, ↓s_nil, ↓s_cons, ↓s_cb, ↓s_call, ↓s_tup, ↓s_lst, ↓s_nopart, ↓s_part, ↓s_sl, ↓s_app, ↓s_items, ↓s_rng1, ↓s_rng2, ↓s_rng3, ↓s_next, ↓s_seq, ↓s_break, ↓s_cont, ↓s_drop, ↓s_ret, ↓s_retN, ↓s_ifS, ↓s_asg, ↓s_gNm, ↓s_gTup, ↓s_gNil, ↓s_gCons, ↓s_aug, ↓s_par, ↓s_for, ↓s_while, ↓s_lc, ↓s_lc2, ↓s_yes, ↓s_tvs0, ↓s_tvs1, ↓s_tvV, ↓s_tvS, ↓s_rvV, ↓s_rvS, ↓s_enum, ↓s_zip, ↓s_callIO, ↓fin_t, pins_nil, pins_p, pins_v, pins_un, lent1, slotL_s, ↓putB_1, ↓s_setI, ↓s_dput, ↓s_daug, ↓s_dnew, ↓s_disp, ↓s_flat0, ↓s_flat1, ↓s_never, ↓s_raise, ↓s_neverE, mkD, D.key, Option.map_some, dgetM, ↓br_t, ↓br_f, ↓s_fin0, ↓s_ref, ↓s_tupRg, ↓s_lstRg, ↓s_rg1, ↓s_rg2, hide, hideS, s_resV, s_resS, s_resL0, s_resL1, s_slotM, s_setM, s_frz, s_frzL, wD_some, got_v, got_p, ↓gset_un, ↓gset_v, vslot_v, fslot_v, asB_b, asI_i, asT_t, asL_l, hasL_l, one_1, two_2, int1_1, int2_2, int3_3, ix0, ix1, Slot.fr?, Slot.m?, Slot.put, opz_f1, o_iop, b_lt, o_addI, o_addS, o_addT, o_addL, o_mulI, o_mulT, o_mulL, o_ixL, o_ixT, o_ixW, o_ixC, o_ixS, o_slL, o_slT, o_slS, o_lenL, o_lenT, o_lenW, o_lenC, o_lenD, o_lenS, o_abs, o_intI, o_intB, o_str, o_list, o_tupL, o_tupT, o_isN, o_isNotN, o_isTy, o_neg, t_non, t_bl, t_int, t_str, t_lst, t_tup, t_wtu, t_dic, i_lst, i_tup, i_wtu, i_scr, i_str, q_lst, q_scr, q_tup, q_wtu, o_sort, o_inL, o_inT, o_eqI, o_neI, o_all, o_any, o_sum, o_max2, o_min2, o_eqB, o_neB, o_ixD, o_ixDi, p_str, p_int, s_frzD, hasD_md, small_md, D.seqs, D.tyN, List.getElem?_cons_zero, List.getElem?_cons_succ, List.set_cons_zero, List.set_cons_succ, List.map_cons, List.map_nil, Option.bind_some, Option.map_some, true_and, and_true, and_assoc, startD, Bool.not_true, Bool.not_false, List.length_cons, List.length_nil, List.nil_append, List.cons_append, List.append_nil, List.replicate, Nat.reduceSub, Nat.reduceAdd, Nat.reduceLeDiff, wipeD, unw, freeAt, Option.getD_some, List.all_cons, List.all_nil, Bool.and_true, Bool.and_self, Slot.free, Nat.zero_sub, Nat.sub_zero, Nat.sub_self, Nat.reduceEqDiff, id_eq, decide_true, decide_false, eq_self,  gset_free ha, max_if]
        refine ⟨by simp; unfold sizeLine; omega, cmul_r (by omega) (by omega), hN _ ⟨acc ++ [at'], _, _, by rw [List.map_append]; rfl, rfl, by simp [hl], ?_⟩⟩
        rw [← he]
        obtain ⟨k, hk⟩ : ∃ k, (cdiv p (L + 1)).toNat - i = k + 1 := ⟨(cdiv p (L + 1)).toNat - i - 1, by omega⟩
        rw [show (cdiv p (L + 1)).toNat - (i + 1) = k by omega, hk]
        have ek : cdiv p (L + 1) + (i : Int) * -1 - 1 = (k : Int) := by omega
        rw [ek]
        simp [lrA]
      · rintro s ⟨acc, at', a, rfl, ha, hl, he⟩
        rw [show (cdiv p (L + 1)).toNat - (cdiv p (L + 1) - 0).toNat = 0 by omega] at he
        simp [lrA] at he
        simp -dsimp only [↓s_var, ↓s_c, ↓s_op, ↓s_test, ↓s_truth, ↓s_chain, ↓s_and, ↓s_or, ↓s_not, ↓s_andV, ↓s_orV, ↓s_notV, ↓s_if, ↓s_un, ↓s_nil, ↓s_cons, ↓s_cb, ↓s_call, ↓s_tup, ↓s_lst, ↓s_nopart, ↓s_part, ↓s_sl, ↓s_app, ↓s_items, ↓s_rng1, ↓s_rng2, ↓s_rng3, ↓s_next, ↓s_seq, ↓s_break, ↓s_cont, ↓s_drop, ↓s_ret, ↓s_retN, ↓s_ifS, ↓s_asg, ↓s_gNm, ↓s_gTup, ↓s_gNil, ↓s_gCons, ↓s_aug, ↓s_par, ↓s_for, ↓s_while, ↓s_lc, ↓s_lc2, ↓s_yes, ↓s_tvs0, ↓s_tvs1, ↓s_tvV, ↓s_tvS, ↓s_rvV, ↓s_rvS, ↓s_enum, ↓s_zip, ↓s_callIO, ↓fin_t, pins_nil, pins_p, pins_v, pins_un, lent1, slotL_s, ↓putB_1, ↓s_setI, ↓s_dput, ↓s_daug, ↓s_dnew, ↓s_disp, ↓s_flat0, ↓s_flat1, ↓s_never, ↓s_raise, ↓s_neverE, mkD, D.key, Option.map_some, dgetM, ↓br_t, ↓br_f, ↓s_fin0, ↓s_ref, ↓s_tupRg, ↓s_lstRg, ↓s_rg1, ↓s_rg2, hide, hideS, s_resV, s_resS, s_resL0, s_resL1, s_slotM, s_setM, s_frz, s_frzL, wD_some, got_v, got_p, ↓gset_un, ↓gset_v, vslot_v, fslot_v, asB_b, asI_i, asT_t, asL_l, hasL_l, one_1, two_2, int1_1, int2_2, int3_3, ix0, ix1, Slot.fr?, Slot.m?, Slot.put, opz_f1, o_iop, b_lt, o_addI, o_addS, o_addT, o_addL, o_mulI, o_mulT, o_mulL, o_ixL, o_ixT, o_ixW, o_ixC, o_ixS, o_slL, o_slT, o_slS, o_lenL, o_lenT, o_lenW, o_lenC, o_lenD, o_lenS, o_abs, o_intI, o_intB, o_str, o_list, o_tupL, o_tupT, o_isN, o_isNotN, o_isTy, o_neg, t_non, t_bl, t_int, t_str, t_lst, t_tup, t_wtu, t_dic, i_lst, i_tup, i_wtu, i_scr, i_str, q_lst, q_scr, q_tup, q_wtu, o_sort, o_inL, o_inT, o_eqI, o_neI, o_all, o_any, o_sum, o_max2, o_min2, o_eqB, o_neB, o_ixD, o_ixDi, p_str, p_int, s_frzD, hasD_md, small_md, D.seqs, D.tyN, List.getElem?_cons_zero, List.getElem?_cons_succ, List.set_cons_zero, List.set_cons_succ, List.map_cons, List.map_nil, Option.bind_some, Option.map_some, true_and, and_true, and_assoc, startD, Bool.not_true, Bool.not_false, List.length_cons, List.length_nil, List.nil_append, List.cons_append, List.append_nil, List.replicate, Nat.reduceSub, Nat.reduceAdd, Nat.reduceLeDiff, wipeD, unw, freeAt, Option.getD_some, List.all_cons, List.all_nil, Bool.and_true, Bool.and_self, Slot.free, Nat.zero_sub, Nat.sub_zero, Nat.sub_self, Nat.reduceEqDiff, id_eq, decide_true, decide_false, eq_self]
        rw [he]
        exact h1 (by omega)
/-! ### staggered -/
def c_staggered (IP : Addr) : CT
  | [.fz (.int p), .fz (.int k)], R, X => (1 ≤ p ∧ p ≤ 60) ∧ (1 ≤ k ∧ k ≤ p → R (.fz (tupI (spr p k.toNat))) []) ∧ (¬ (1 ≤ k ∧ k ≤ p) → X (.ref IP) none [])
  | _, _, _ => False
theorem sc_staggered : FnScope N_staggered ["period", "disks"] (defScope s_staggered) := ⟨rfl, rfl, rfl, by decide +kernel, rfl, by decide +kernel, by decide +kernel⟩
theorem ok_staggered (T : Txt K mg C_InvalidPlan) (F : TopFn K mg "staggered" s_staggered ["period", "disks"]) : FnAt P w K mg base TB 1 "staggered" ["period", "disks"] false (c_staggered C_InvalidPlan) := by
  have nd := sc_staggered.nd
  refine fnAt F sc_staggered (fun ms R X h => by unfold c_staggered at h; split at h <;> first | rfl | exact h.elim) (fun h => by cases h) fun f cdv A outer s H E x0 Xd hr => ?_
  refine ⟨_, _, (dss_cons (ds_if (DW.pt (dw_or (dt_not (dt_chain op_le od_le op_le od_le de_int (dv 0) (de_gint T.c_MOST_PERIOD))) (dw_or1 (dt_not (dt_chain op_le od_le op_le od_le de_int (dv 1) (dv 0))))))
      (dss_one (ds_raiseC T.x_InvalidPlan rfl takesD rfl))
      dss_nil)
      (dss_one (ds_ret (de_callTy (call_tupleA rfl) cd_tuple (by rfl) T.n_tuple bo_tuple (da_cons (de_lc (own := [("disk", 2)]) rfl nd (di_rng1 (by rfl) T.n_range (da_cons (dv 1) da_nil)) (blkOk_by (N := N_staggered) (sc := defScope s_staggered) (by decide +kernel)) (GOnly.name (by decide)) GMono.name (fun _ _ _ _ _ => (dg_name (i := 2) nd rfl (by first | exact Or.inl rfl | exact Or.inr rfl))) (fun _ _ _ _ _ => dts_nil) (fun _ _ _ _ _ => (de_op op_fdivA od_fdiv (de_op (op_mulA rfl) od_mul (dv 2) (dv 0)) (dv 1)))) da_nil))))), ?_⟩
  intro ms Rd h
  unfold c_staggered at h
  split at h <;> first | exact (show False from h).elim | skip
  rename_i p k
  obtain ⟨hp, h1, h2⟩ := h
  repeat' (first | refine br_dec (fun h => ?_) (fun h => ?_) | refine br_ndec (fun h => ?_) (fun h => ?_) | simp -dsimp only [↓s_var, ↓s_c, ↓s_op, ↓s_test, ↓s_truth, ↓s_chain, ↓s_and, ↓s_or, ↓s_not, ↓s_andV, ↓s_orV, ↓s_notV, ↓s_if, ↓s_un, ↓s_nil, ↓s_cons, ↓s_cb, ↓s_call, ↓s_tup, ↓s_lst, ↓s_nopart, ↓s_part, ↓s_sl, ↓s_app, ↓s_items, ↓s_rng1, ↓s_rng2, ↓s_rng3, ↓s_next, ↓s_seq, ↓s_break, ↓s_cont, ↓s_drop, ↓s_ret, ↓s_retN, ↓s_ifS, ↓s_asg, ↓s_gNm, ↓s_gTup, ↓s_gNil, ↓s_gCons, ↓s_aug, ↓s_par, ↓s_for, ↓s_while, ↓s_lc, ↓s_lc2, ↓s_yes, ↓s_tvs0, ↓s_tvs1, ↓s_tvV, ↓s_tvS, ↓s_rvV, ↓s_rvS, ↓s_enum, ↓s_zip, ↓s_callIO, ↓fin_t, pins_nil, pins_p, pins_v, pins_un, lent1, slotL_s, ↓putB_1, ↓s_setI, ↓s_dput, ↓s_daug, ↓s_dnew, ↓s_disp, ↓s_flat0, ↓s_flat1, ↓s_never, ↓s_raise, ↓s_neverE, mkD, D.key, Option.map_some, dgetM, ↓br_t, ↓br_f, ↓s_fin0, ↓s_ref, ↓s_tupRg, ↓s_lstRg, ↓s_rg1, ↓s_rg2, hide, hideS, s_resV, s_resS, s_resL0, s_resL1, s_slotM, s_setM, s_frz, s_frzL, wD_some, got_v, got_p, ↓gset_un, ↓gset_v, vslot_v, fslot_v, asB_b, asI_i, asT_t, asL_l, hasL_l, one_1, two_2, int1_1, int2_2, int3_3, ix0, ix1, Slot.fr?, Slot.m?, Slot.put, opz_f1, o_iop, b_lt, o_addI, o_addS, o_addT, o_addL, o_mulI, o_mulT, o_mulL, o_ixL, o_ixT, o_ixW, o_ixC, o_ixS, o_slL, o_slT, o_slS, o_lenL, o_lenT, o_lenW, o_lenC, o_lenD, o_lenS, o_abs, o_intI, o_intB, o_str, o_list, o_tupL, o_tupT, o_isN, o_isNotN, o_isTy, o_neg, t_non, t_bl, t_int, t_str, t_lst, t_tup, t_wtu, t_dic, i_lst, i_tup, i_wtu, i_scr, i_str, q_lst, q_scr, q_tup, q_wtu, o_sort, o_inL, o_inT, o_eqI, o_neI, o_all, o_any, o_sum, o_max2, o_min2, o_eqB, o_neB, o_ixD, o_ixDi, p_str, p_int, s_frzD, hasD_md, small_md, D.seqs, D.tyN, List.getElem?_cons_zero, List.getElem?_cons_succ, List.set_cons_zero, List.set_cons_succ, List.map_cons, List.map_nil, Option.bind_some, Option.map_some, true_and, and_true, and_assoc, startD, Bool.not_true, Bool.not_false, List.length_cons, List.length_nil, List.nil_append, List.cons_append, List.append_nil, List.replicate, Nat.reduceSub, Nat.reduceAdd, Nat.reduceLeDiff, wipeD, unw, freeAt, Option.getD_some, List.all_cons, List.all_nil, Bool.and_true, Bool.and_self, Slot.free, Nat.zero_sub, Nat.sub_zero, Nat.sub_self, Nat.reduceEqDiff, id_eq, decide_true, decide_false, eq_self])
  all_goals try exact h2 (by omega)
  have hk : 1 ≤ k ∧ k ≤ p := by omega
  refine ⟨by omega, by omega, ?_⟩
  rw [rng_isq]
  refine lcR_mapE (fun s => s = [.v (.fz (.int p)), .v (.fz (.int k)), .un]) (fun d => .int (d * p / k)) (by rw [isq_len]; unfold sizeLine; omega) rfl ?_ ?_
  · rintro d hd s rfl R hR
    simp -dsimp only [↓s_var, ↓s_c, ↓s_op, ↓s_test, ↓s_truth, ↓s_chain, ↓s_and, ↓s_or, ↓s_not, ↓s_andV, ↓s_orV, ↓s_notV, ↓s_if, ↓s_un, ↓s_nil, ↓s_cons, ↓s_cb, ↓s_call, ↓s_tup, ↓s_lst, ↓s_nopart, ↓s_part, ↓s_sl, ↓s_app, ↓s_items, ↓s_rng1, ↓s_rng2, ↓s_rng3, ↓s_next, ↓s_seq, ↓s_break, ↓s_cont, ↓s_drop, ↓s_ret, ↓s_retN, ↓s_ifS, ↓s_asg, ↓s_gNm, ↓s_gTup, ↓s_gNil, ↓s_gCons, ↓s_aug, ↓s_par, ↓s_for, ↓s_while, ↓s_lc, ↓s_lc2, ↓s_yes, ↓s_tvs0, ↓s_tvs1, ↓s_tvV, ↓s_tvS, ↓s_rvV, ↓s_rvS, ↓s_enum, ↓s_zip, ↓s_callIO, ↓fin_t, pins_nil, pins_p, pins_v, pins_un, lent1, slotL_s, ↓putB_1, ↓s_setI, ↓s_dput, ↓s_daug, ↓s_dnew, ↓s_disp, ↓s_flat0, ↓s_flat1, ↓s_never, ↓s_raise, ↓s_neverE, mkD, D.key, Option.map_some, dgetM, ↓br_t, ↓br_f, ↓s_fin0, ↓s_ref, ↓s_tupRg, ↓s_lstRg, ↓s_rg1, ↓s_rg2, hide, hideS, s_resV, s_resS, s_resL0, s_resL1, s_slotM, s_setM, s_frz, s_frzL, wD_some, got_v, got_p, ↓gset_un, ↓gset_v, vslot_v, fslot_v, asB_b, asI_i, asT_t, asL_l, hasL_l, one_1, two_2, int1_1, int2_2, int3_3, ix0, ix1, Slot.fr?, Slot.m?, Slot.put, opz_f1, o_iop, b_lt, o_addI, o_addS, o_addT, o_addL, o_mulI, o_mulT, o_mulL, o_ixL, o_ixT, o_ixW, o_ixC, o_ixS, o_slL, o_slT, o_slS, o_lenL, o_lenT, o_lenW, o_lenC, o_lenD, o_lenS, o_abs, o_intI, o_intB, o_str, o_list, o_tupL, o_tupT, o_isN, o_isNotN, o_isTy, o_neg, t_non, t_bl, t_int, t_str, t_lst, t_tup, t_wtu, t_dic, i_lst, i_tup, i_wtu, i_scr, i_str, q_lst, q_scr, q_tup, q_wtu, o_sort, o_inL, o_inT, o_eqI, o_neI, o_all, o_any, o_sum, o_max2, o_min2, o_eqB, o_neB, o_ixD, o_ixDi, p_str, p_int, s_frzD, hasD_md, small_md, D.seqs, D.tyN, List.getElem?_cons_zero, List.getElem?_cons_succ, List.set_cons_zero, List.set_cons_succ, List.map_cons, List.map_nil, Option.bind_some, Option.map_some, true_and, and_true, and_assoc, startD, Bool.not_true, Bool.not_false, List.length_cons, List.length_nil, List.nil_append, List.cons_append, List.append_nil, List.replicate, Nat.reduceSub, Nat.reduceAdd, Nat.reduceLeDiff, wipeD, unw, freeAt, Option.getD_some, List.all_cons, List.all_nil, Bool.and_true, Bool.and_self, Slot.free, Nat.zero_sub, Nat.sub_zero, Nat.sub_self, Nat.reduceEqDiff, id_eq, decide_true, decide_false, eq_self]
    refine ⟨cmul_r (by omega) (by omega), cfd_r (by omega) (by omega), hR _ _ ?_ rfl⟩
    rw [Int.fdiv_eq_ediv_of_nonneg _ (by omega)]
    rfl
  · rintro s' rfl
    simp -dsimp only [↓s_var, ↓s_c, ↓s_op, ↓s_test, ↓s_truth, ↓s_chain, ↓s_and, ↓s_or, ↓s_not, ↓s_andV, ↓s_orV, ↓s_notV, ↓s_if, ↓s_un, ↓s_nil, ↓s_cons, ↓s_cb, ↓s_call, ↓s_tup, ↓s_lst, ↓s_nopart, ↓s_part, ↓s_sl, ↓s_app, ↓s_items, ↓s_rng1, ↓s_rng2, ↓s_rng3, ↓s_next, ↓s_seq, ↓s_break, ↓s_cont, ↓s_drop, ↓s_ret, ↓s_retN, ↓s_ifS, ↓s_asg, ↓s_gNm, ↓s_gTup, ↓s_gNil, ↓s_gCons, ↓s_aug, ↓s_par, ↓s_for, ↓s_while, ↓s_lc, ↓s_lc2, ↓s_yes, ↓s_tvs0, ↓s_tvs1, ↓s_tvV, ↓s_tvS, ↓s_rvV, ↓s_rvS, ↓s_enum, ↓s_zip, ↓s_callIO, ↓fin_t, pins_nil, pins_p, pins_v, pins_un, lent1, slotL_s, ↓putB_1, ↓s_setI, ↓s_dput, ↓s_daug, ↓s_dnew, ↓s_disp, ↓s_flat0, ↓s_flat1, ↓s_never, ↓s_raise, ↓s_neverE, mkD, D.key, Option.map_some, dgetM, ↓br_t, ↓br_f, ↓s_fin0, ↓s_ref, ↓s_tupRg, ↓s_lstRg, ↓s_rg1, ↓s_rg2, hide, hideS, s_resV, s_resS, s_resL0, s_resL1, s_slotM, s_setM, s_frz, s_frzL, wD_some, got_v, got_p, ↓gset_un, ↓gset_v, vslot_v, fslot_v, asB_b, asI_i, asT_t, asL_l, hasL_l, one_1, two_2, int1_1, int2_2, int3_3, ix0, ix1, Slot.fr?, Slot.m?, Slot.put, opz_f1, o_iop, b_lt, o_addI, o_addS, o_addT, o_addL, o_mulI, o_mulT, o_mulL, o_ixL, o_ixT, o_ixW, o_ixC, o_ixS, o_slL, o_slT, o_slS, o_lenL, o_lenT, o_lenW, o_lenC, o_lenD, o_lenS, o_abs, o_intI, o_intB, o_str, o_list, o_tupL, o_tupT, o_isN, o_isNotN, o_isTy, o_neg, t_non, t_bl, t_int, t_str, t_lst, t_tup, t_wtu, t_dic, i_lst, i_tup, i_wtu, i_scr, i_str, q_lst, q_scr, q_tup, q_wtu, o_sort, o_inL, o_inT, o_eqI, o_neI, o_all, o_any, o_sum, o_max2, o_min2, o_eqB, o_neB, o_ixD, o_ixDi, p_str, p_int, s_frzD, hasD_md, small_md, D.seqs, D.tyN, List.getElem?_cons_zero, List.getElem?_cons_succ, List.set_cons_zero, List.set_cons_succ, List.map_cons, List.map_nil, Option.bind_some, Option.map_some, true_and, and_true, and_assoc, startD, Bool.not_true, Bool.not_false, List.length_cons, List.length_nil, List.nil_append, List.cons_append, List.append_nil, List.replicate, Nat.reduceSub, Nat.reduceAdd, Nat.reduceLeDiff, wipeD, unw, freeAt, Option.getD_some, List.all_cons, List.all_nil, Bool.and_true, Bool.and_self, Slot.free, Nat.zero_sub, Nat.sub_zero, Nat.sub_self, Nat.reduceEqDiff, id_eq, decide_true, decide_false, eq_self]
    have := h1 hk
    unfold tupI spr at this
    rw [Int.toNat_of_nonneg (by omega), List.map_map] at this
    exact this
/-! ### _law_next, _law_longest -/
def c__law_next : CT
  | [.fz (.int p), .fz (.tup rs), .fz (.int m)], R, _ => ∃ ns : List Int, rs = ns.map .int ∧ okN p ns ∧ p ≤ 60 ∧ R (.fz (.int (nx p ns m))) []
  | _, _, _ => False
theorem sc__law_next : FnScope N__law_next ["period", "reads", "moment"] (defScope s__law_next) := ⟨rfl, rfl, rfl, by decide +kernel, rfl, by decide +kernel, by decide +kernel⟩
theorem ok__law_next (T : Txt K mg C_InvalidPlan) (F : TopFn K mg "_law_next" s__law_next ["period", "reads", "moment"]) : FnAt P w K mg base TB 1 "_law_next" ["period", "reads", "moment"] false c__law_next := by
  have nd := sc__law_next.nd
  refine fnAt F sc__law_next (fun ms R X h => by unfold c__law_next at h; split at h <;> first | rfl | exact h.elim) (fun h => by cases h) fun f cdv A outer s H E x0 Xd hr => ?_
  refine ⟨_, _, (dss_cons (ds_set (i := 3) nd rfl (by first | exact Or.inl rfl | exact Or.inr rfl) (dv 2))
      (dss_cons (ds_while passD (dt_cmp (op_notInA rfl (hu99 hr)) od_notin (de_op op_modN od_mod (de_callTy call_intA cd_int (by rfl) T.n_int bo_int (da_cons (dv 3) da_nil)) (dv 0)) (dv 1) rfl)
      (dss_one (ds_set (i := 3) nd rfl (by first | exact Or.inl rfl | exact Or.inr rfl) (de_op (op_addA rfl) od_add (dv 3) de_int))))
      (dss_one (ds_ret (dv 3))))), ?_⟩
  intro ms Rd h
  unfold c__law_next at h
  split at h <;> first | exact (show False from h).elim | skip
  rename_i p rs m
  obtain ⟨ns, rfl, ok, hp60, h2⟩ := h
  have hp := ok.1
  have sp := nx_spec (m := m) ok
  generalize nx p ns m = t at sp h2
  simp -dsimp only [↓s_var, ↓s_c, ↓s_op, ↓s_test, ↓s_truth, ↓s_chain, ↓s_and, ↓s_or, ↓s_not, ↓s_andV, ↓s_orV, ↓s_notV, ↓s_if, ↓s_un, ↓s_nil, ↓s_cons, ↓s_cb, ↓s_call, ↓s_tup, ↓s_lst, ↓s_nopart, ↓s_part, ↓s_sl, ↓s_app, ↓s_items, ↓s_rng1, ↓s_rng2, ↓s_rng3, ↓s_next, ↓s_seq, ↓s_break, ↓s_cont, ↓s_drop, ↓s_ret, ↓s_retN, ↓s_ifS, ↓s_asg, ↓s_gNm, ↓s_gTup, ↓s_gNil, ↓s_gCons, ↓s_aug, ↓s_par, ↓s_for, ↓s_while, ↓s_lc, ↓s_lc2, ↓s_yes, ↓s_tvs0, ↓s_tvs1, ↓s_tvV, ↓s_tvS, ↓s_rvV, ↓s_rvS, ↓s_enum, ↓s_zip, ↓s_callIO, ↓fin_t, pins_nil, pins_p, pins_v, pins_un, lent1, slotL_s, ↓putB_1, ↓s_setI, ↓s_dput, ↓s_daug, ↓s_dnew, ↓s_disp, ↓s_flat0, ↓s_flat1, ↓s_never, ↓s_raise, ↓s_neverE, mkD, D.key, Option.map_some, dgetM, ↓br_t, ↓br_f, ↓s_fin0, ↓s_ref, ↓s_tupRg, ↓s_lstRg, ↓s_rg1, ↓s_rg2, hide, hideS, s_resV, s_resS, s_resL0, s_resL1, s_slotM, s_setM, s_frz, s_frzL, wD_some, got_v, got_p, ↓gset_un, ↓gset_v, vslot_v, fslot_v, asB_b, asI_i, asT_t, asL_l, hasL_l, one_1, two_2, int1_1, int2_2, int3_3, ix0, ix1, Slot.fr?, Slot.m?, Slot.put, opz_f1, o_iop, b_lt, o_addI, o_addS, o_addT, o_addL, o_mulI, o_mulT, o_mulL, o_ixL, o_ixT, o_ixW, o_ixC, o_ixS, o_slL, o_slT, o_slS, o_lenL, o_lenT, o_lenW, o_lenC, o_lenD, o_lenS, o_abs, o_intI, o_intB, o_str, o_list, o_tupL, o_tupT, o_isN, o_isNotN, o_isTy, o_neg, t_non, t_bl, t_int, t_str, t_lst, t_tup, t_wtu, t_dic, i_lst, i_tup, i_wtu, i_scr, i_str, q_lst, q_scr, q_tup, q_wtu, o_sort, o_inL, o_inT, o_eqI, o_neI, o_all, o_any, o_sum, o_max2, o_min2, o_eqB, o_neB, o_ixD, o_ixDi, p_str, p_int, s_frzD, hasD_md, small_md, D.seqs, D.tyN, List.getElem?_cons_zero, List.getElem?_cons_succ, List.set_cons_zero, List.set_cons_succ, List.map_cons, List.map_nil, Option.bind_some, Option.map_some, true_and, and_true, and_assoc, startD, Bool.not_true, Bool.not_false, List.length_cons, List.length_nil, List.nil_append, List.cons_append, List.append_nil, List.replicate, Nat.reduceSub, Nat.reduceAdd, Nat.reduceLeDiff, wipeD, unw, freeAt, Option.getD_some, List.all_cons, List.all_nil, Bool.and_true, Bool.and_self, Slot.free, Nat.zero_sub, Nat.sub_zero, Nat.sub_self, Nat.reduceEqDiff, id_eq, decide_true, decide_false, eq_self]
  refine wh_of (fun n s => ∃ now : Int, s = [.v (.fz (.int p)), .v (.fz (.tup (ns.map .int))), .v (.fz (.int m)), .v (.fz (.int now))] ∧ m ≤ now ∧ now ≤ t ∧ n = (t - now).toNat) (t - m).toNat ⟨m, rfl, Int.le_refl _, sp.1, rfl⟩ ?_
  rintro n s ⟨now, rfl, h3, h4, hn⟩ N B R hN hB hR
  simp -dsimp only [↓s_var, ↓s_c, ↓s_op, ↓s_test, ↓s_truth, ↓s_chain, ↓s_and, ↓s_or, ↓s_not, ↓s_andV, ↓s_orV, ↓s_notV, ↓s_if, ↓s_un, ↓s_nil, ↓s_cons, ↓s_cb, ↓s_call, ↓s_tup, ↓s_lst, ↓s_nopart, ↓s_part, ↓s_sl, ↓s_app, ↓s_items, ↓s_rng1, ↓s_rng2, ↓s_rng3, ↓s_next, ↓s_seq, ↓s_break, ↓s_cont, ↓s_drop, ↓s_ret, ↓s_retN, ↓s_ifS, ↓s_asg, ↓s_gNm, ↓s_gTup, ↓s_gNil, ↓s_gCons, ↓s_aug, ↓s_par, ↓s_for, ↓s_while, ↓s_lc, ↓s_lc2, ↓s_yes, ↓s_tvs0, ↓s_tvs1, ↓s_tvV, ↓s_tvS, ↓s_rvV, ↓s_rvS, ↓s_enum, ↓s_zip, ↓s_callIO, ↓fin_t, pins_nil, pins_p, pins_v, pins_un, lent1, slotL_s, ↓putB_1, ↓s_setI, ↓s_dput, ↓s_daug, ↓s_dnew, ↓s_disp, ↓s_flat0, ↓s_flat1, ↓s_never, ↓s_raise, ↓s_neverE, mkD, D.key, Option.map_some, dgetM, ↓br_t, ↓br_f, ↓s_fin0, ↓s_ref, ↓s_tupRg, ↓s_lstRg, ↓s_rg1, ↓s_rg2, hide, hideS, s_resV, s_resS, s_resL0, s_resL1, s_slotM, s_setM, s_frz, s_frzL, wD_some, got_v, got_p, ↓gset_un, ↓gset_v, vslot_v, fslot_v, asB_b, asI_i, asT_t, asL_l, hasL_l, one_1, two_2, int1_1, int2_2, int3_3, ix0, ix1, Slot.fr?, Slot.m?, Slot.put, opz_f1, o_iop, b_lt, o_addI, o_addS, o_addT, o_addL, o_mulI, o_mulT, o_mulL, o_ixL, o_ixT, o_ixW, o_ixC, o_ixS, o_slL, o_slT, o_slS, o_lenL, o_lenT, o_lenW, o_lenC, o_lenD, o_lenS, o_abs, o_intI, o_intB, o_str, o_list, o_tupL, o_tupT, o_isN, o_isNotN, o_isTy, o_neg, t_non, t_bl, t_int, t_str, t_lst, t_tup, t_wtu, t_dic, i_lst, i_tup, i_wtu, i_scr, i_str, q_lst, q_scr, q_tup, q_wtu, o_sort, o_inL, o_inT, o_eqI, o_neI, o_all, o_any, o_sum, o_max2, o_min2, o_eqB, o_neB, o_ixD, o_ixDi, p_str, p_int, s_frzD, hasD_md, small_md, D.seqs, D.tyN, List.getElem?_cons_zero, List.getElem?_cons_succ, List.set_cons_zero, List.set_cons_succ, List.map_cons, List.map_nil, Option.bind_some, Option.map_some, true_and, and_true, and_assoc, startD, Bool.not_true, Bool.not_false, List.length_cons, List.length_nil, List.nil_append, List.cons_append, List.append_nil, List.replicate, Nat.reduceSub, Nat.reduceAdd, Nat.reduceLeDiff, wipeD, unw, freeAt, Option.getD_some, List.all_cons, List.all_nil, Bool.and_true, Bool.and_self, Slot.free, Nat.zero_sub, Nat.sub_zero, Nat.sub_self, Nat.reduceEqDiff, id_eq, decide_true, decide_false, eq_self]
  have e : now.fmod p = now % p := Int.fmod_eq_emod_of_nonneg _ (by omega)
  have e2 := Enc.int.mem (now % p) ns trivial (fun _ _ => trivial)
  rw [e, e2]
  refine ⟨by omega, Enc.int.okIn (by decide) _ _ trivial (fun _ _ => trivial), br_ndec (fun h => ?_) (fun h => ?_)⟩
  · simp -dsimp only [↓s_var, ↓s_c, ↓s_op, ↓s_test, ↓s_truth, ↓s_chain, ↓s_and, ↓s_or, ↓s_not, ↓s_andV, ↓s_orV, ↓s_notV, ↓s_if, ↓s_un, ↓s_nil, ↓s_cons, ↓s_cb, ↓s_call, ↓s_tup, ↓s_lst, ↓s_nopart, ↓s_part, ↓s_sl, ↓s_app, ↓s_items, ↓s_rng1, ↓s_rng2, ↓s_rng3, ↓s_next, ↓s_seq, ↓s_break, ↓s_cont, ↓s_drop, ↓s_ret, ↓s_retN, ↓s_ifS, ↓s_asg, ↓s_gNm, ↓s_gTup, ↓s_gNil, ↓s_gCons, ↓s_aug, ↓s_par, ↓s_for, ↓s_while, ↓s_lc, ↓s_lc2, ↓s_yes, ↓s_tvs0, ↓s_tvs1, ↓s_tvV, ↓s_tvS, ↓s_rvV, ↓s_rvS, ↓s_enum, ↓s_zip, ↓s_callIO, ↓fin_t, pins_nil, pins_p, pins_v, pins_un, lent1, slotL_s, ↓putB_1, ↓s_setI, ↓s_dput, ↓s_daug, ↓s_dnew, ↓s_disp, ↓s_flat0, ↓s_flat1, ↓s_never, ↓s_raise, ↓s_neverE, mkD, D.key, Option.map_some, dgetM, ↓br_t, ↓br_f, ↓s_fin0, ↓s_ref, ↓s_tupRg, ↓s_lstRg, ↓s_rg1, ↓s_rg2, hide, hideS, s_resV, s_resS, s_resL0, s_resL1, s_slotM, s_setM, s_frz, s_frzL, wD_some, got_v, got_p, ↓gset_un, ↓gset_v, vslot_v, fslot_v, asB_b, asI_i, asT_t, asL_l, hasL_l, one_1, two_2, int1_1, int2_2, int3_3, ix0, ix1, Slot.fr?, Slot.m?, Slot.put, opz_f1, o_iop, b_lt, o_addI, o_addS, o_addT, o_addL, o_mulI, o_mulT, o_mulL, o_ixL, o_ixT, o_ixW, o_ixC, o_ixS, o_slL, o_slT, o_slS, o_lenL, o_lenT, o_lenW, o_lenC, o_lenD, o_lenS, o_abs, o_intI, o_intB, o_str, o_list, o_tupL, o_tupT, o_isN, o_isNotN, o_isTy, o_neg, t_non, t_bl, t_int, t_str, t_lst, t_tup, t_wtu, t_dic, i_lst, i_tup, i_wtu, i_scr, i_str, q_lst, q_scr, q_tup, q_wtu, o_sort, o_inL, o_inT, o_eqI, o_neI, o_all, o_any, o_sum, o_max2, o_min2, o_eqB, o_neB, o_ixD, o_ixDi, p_str, p_int, s_frzD, hasD_md, small_md, D.seqs, D.tyN, List.getElem?_cons_zero, List.getElem?_cons_succ, List.set_cons_zero, List.set_cons_succ, List.map_cons, List.map_nil, Option.bind_some, Option.map_some, true_and, and_true, and_assoc, startD, Bool.not_true, Bool.not_false, List.length_cons, List.length_nil, List.nil_append, List.cons_append, List.append_nil, List.replicate, Nat.reduceSub, Nat.reduceAdd, Nat.reduceLeDiff, wipeD, unw, freeAt, Option.getD_some, List.all_cons, List.all_nil, Bool.and_true, Bool.and_self, Slot.free, Nat.zero_sub, Nat.sub_zero, Nat.sub_self, Nat.reduceEqDiff, id_eq, decide_true, decide_false, eq_self]
    have : now ≠ t := fun e => h (e ▸ sp.2.1)
    exact hN (t - (now + 1)).toNat _ (by omega) ⟨now + 1, rfl, by omega, by omega, rfl⟩
  · have : now = t := by
      rcases Int.lt_or_le now t with q | q
      · exact absurd h (sp.2.2 now h3 q)
      · omega
    subst this hB
    simp -dsimp only [↓s_var, ↓s_c, ↓s_op, ↓s_test, ↓s_truth, ↓s_chain, ↓s_and, ↓s_or, ↓s_not, ↓s_andV, ↓s_orV, ↓s_notV, ↓s_if, ↓s_un, ↓s_nil, ↓s_cons, ↓s_cb, ↓s_call, ↓s_tup, ↓s_lst, ↓s_nopart, ↓s_part, ↓s_sl, ↓s_app, ↓s_items, ↓s_rng1, ↓s_rng2, ↓s_rng3, ↓s_next, ↓s_seq, ↓s_break, ↓s_cont, ↓s_drop, ↓s_ret, ↓s_retN, ↓s_ifS, ↓s_asg, ↓s_gNm, ↓s_gTup, ↓s_gNil, ↓s_gCons, ↓s_aug, ↓s_par, ↓s_for, ↓s_while, ↓s_lc, ↓s_lc2, ↓s_yes, ↓s_tvs0, ↓s_tvs1, ↓s_tvV, ↓s_tvS, ↓s_rvV, ↓s_rvS, ↓s_enum, ↓s_zip, ↓s_callIO, ↓fin_t, pins_nil, pins_p, pins_v, pins_un, lent1, slotL_s, ↓putB_1, ↓s_setI, ↓s_dput, ↓s_daug, ↓s_dnew, ↓s_disp, ↓s_flat0, ↓s_flat1, ↓s_never, ↓s_raise, ↓s_neverE, mkD, D.key, Option.map_some, dgetM, ↓br_t, ↓br_f, ↓s_fin0, ↓s_ref, ↓s_tupRg, ↓s_lstRg, ↓s_rg1, ↓s_rg2, hide, hideS, s_resV, s_resS, s_resL0, s_resL1, s_slotM, s_setM, s_frz, s_frzL, wD_some, got_v, got_p, ↓gset_un, ↓gset_v, vslot_v, fslot_v, asB_b, asI_i, asT_t, asL_l, hasL_l, one_1, two_2, int1_1, int2_2, int3_3, ix0, ix1, Slot.fr?, Slot.m?, Slot.put, opz_f1, o_iop, b_lt, o_addI, o_addS, o_addT, o_addL, o_mulI, o_mulT, o_mulL, o_ixL, o_ixT, o_ixW, o_ixC, o_ixS, o_slL, o_slT, o_slS, o_lenL, o_lenT, o_lenW, o_lenC, o_lenD, o_lenS, o_abs, o_intI, o_intB, o_str, o_list, o_tupL, o_tupT, o_isN, o_isNotN, o_isTy, o_neg, t_non, t_bl, t_int, t_str, t_lst, t_tup, t_wtu, t_dic, i_lst, i_tup, i_wtu, i_scr, i_str, q_lst, q_scr, q_tup, q_wtu, o_sort, o_inL, o_inT, o_eqI, o_neI, o_all, o_any, o_sum, o_max2, o_min2, o_eqB, o_neB, o_ixD, o_ixDi, p_str, p_int, s_frzD, hasD_md, small_md, D.seqs, D.tyN, List.getElem?_cons_zero, List.getElem?_cons_succ, List.set_cons_zero, List.set_cons_succ, List.map_cons, List.map_nil, Option.bind_some, Option.map_some, true_and, and_true, and_assoc, startD, Bool.not_true, Bool.not_false, List.length_cons, List.length_nil, List.nil_append, List.cons_append, List.append_nil, List.replicate, Nat.reduceSub, Nat.reduceAdd, Nat.reduceLeDiff, wipeD, unw, freeAt, Option.getD_some, List.all_cons, List.all_nil, Bool.and_true, Bool.and_self, Slot.free, Nat.zero_sub, Nat.sub_zero, Nat.sub_self, Nat.reduceEqDiff, id_eq, decide_true, decide_false, eq_self]
    exact h2
def c__law_longest : CT
  | [.fz (.int p), .fz (.tup rs)], R, _ => ∃ ns : List Int, rs = ns.map .int ∧ okN p ns ∧ p ≤ 60 ∧ R (.fz (.int (lg p ns))) []
  | _, _, _ => False
theorem sc__law_longest : FnScope N__law_longest ["period", "reads"] (defScope s__law_longest) := ⟨rfl, rfl, rfl, by decide +kernel, rfl, by decide +kernel, by decide +kernel⟩
theorem ok__law_longest (T : Txt K mg C_InvalidPlan) (G__law_next : FnAt P w K mg base TB 1 "_law_next" ["period", "reads", "moment"] false c__law_next) (F : TopFn K mg "_law_longest" s__law_longest ["period", "reads"]) : FnAt P w K mg base TB 2 "_law_longest" ["period", "reads"] false c__law_longest := by
  have nd := sc__law_longest.nd
  refine fnAt F sc__law_longest (fun ms R X h => by unfold c__law_longest at h; split at h <;> first | rfl | exact h.elim) (fun h => by cases h) fun f cdv A outer s H E x0 Xd hr => ?_
  refine ⟨_, _, (dss_one (ds_ret (de_callB (call_maxA rfl rfl) cd_max (by rfl) T.n_max bo_max (da_cons (de_lc (own := [("moment", 2)]) rfl nd (di_rng1 (by rfl) T.n_range (da_cons (dv 0) da_nil)) (blkOk_by (N := N__law_longest) (sc := defScope s__law_longest) (by decide +kernel)) (GOnly.name (by decide)) GMono.name (fun _ _ _ _ _ => (dg_name (i := 2) nd rfl (by first | exact Or.inl rfl | exact Or.inr rfl))) (fun _ _ _ _ _ => dts_nil) (fun _ _ _ _ _ => (de_op op_sub od_sub (de_callN G__law_next hr rfl rfl takes_blk (da_cons (dv 0) (da_cons (dv 1) (da_cons (dv 2) da_nil)))) (dv 2)))) da_nil)))), ?_⟩
  intro ms Rd h
  unfold c__law_longest at h
  split at h <;> first | exact (show False from h).elim | skip
  rename_i p rs
  obtain ⟨ns, rfl, ok, hp60, h2⟩ := h
  have hp := ok.1
  simp -dsimp only [↓s_var, ↓s_c, ↓s_op, ↓s_test, ↓s_truth, ↓s_chain, ↓s_and, ↓s_or, ↓s_not, ↓s_andV, ↓s_orV, ↓s_notV, ↓s_if, ↓s_un, ↓s_nil, ↓s_cons, ↓s_cb, ↓s_call, ↓s_tup, ↓s_lst, ↓s_nopart, ↓s_part, ↓s_sl, ↓s_app, ↓s_items, ↓s_rng1, ↓s_rng2, ↓s_rng3, ↓s_next, ↓s_seq, ↓s_break, ↓s_cont, ↓s_drop, ↓s_ret, ↓s_retN, ↓s_ifS, ↓s_asg, ↓s_gNm, ↓s_gTup, ↓s_gNil, ↓s_gCons, ↓s_aug, ↓s_par, ↓s_for, ↓s_while, ↓s_lc, ↓s_lc2, ↓s_yes, ↓s_tvs0, ↓s_tvs1, ↓s_tvV, ↓s_tvS, ↓s_rvV, ↓s_rvS, ↓s_enum, ↓s_zip, ↓s_callIO, ↓fin_t, pins_nil, pins_p, pins_v, pins_un, lent1, slotL_s, ↓putB_1, ↓s_setI, ↓s_dput, ↓s_daug, ↓s_dnew, ↓s_disp, ↓s_flat0, ↓s_flat1, ↓s_never, ↓s_raise, ↓s_neverE, mkD, D.key, Option.map_some, dgetM, ↓br_t, ↓br_f, ↓s_fin0, ↓s_ref, ↓s_tupRg, ↓s_lstRg, ↓s_rg1, ↓s_rg2, hide, hideS, s_resV, s_resS, s_resL0, s_resL1, s_slotM, s_setM, s_frz, s_frzL, wD_some, got_v, got_p, ↓gset_un, ↓gset_v, vslot_v, fslot_v, asB_b, asI_i, asT_t, asL_l, hasL_l, one_1, two_2, int1_1, int2_2, int3_3, ix0, ix1, Slot.fr?, Slot.m?, Slot.put, opz_f1, o_iop, b_lt, o_addI, o_addS, o_addT, o_addL, o_mulI, o_mulT, o_mulL, o_ixL, o_ixT, o_ixW, o_ixC, o_ixS, o_slL, o_slT, o_slS, o_lenL, o_lenT, o_lenW, o_lenC, o_lenD, o_lenS, o_abs, o_intI, o_intB, o_str, o_list, o_tupL, o_tupT, o_isN, o_isNotN, o_isTy, o_neg, t_non, t_bl, t_int, t_str, t_lst, t_tup, t_wtu, t_dic, i_lst, i_tup, i_wtu, i_scr, i_str, q_lst, q_scr, q_tup, q_wtu, o_sort, o_inL, o_inT, o_eqI, o_neI, o_all, o_any, o_sum, o_max2, o_min2, o_eqB, o_neB, o_ixD, o_ixDi, p_str, p_int, s_frzD, hasD_md, small_md, D.seqs, D.tyN, List.getElem?_cons_zero, List.getElem?_cons_succ, List.set_cons_zero, List.set_cons_succ, List.map_cons, List.map_nil, Option.bind_some, Option.map_some, true_and, and_true, and_assoc, startD, Bool.not_true, Bool.not_false, List.length_cons, List.length_nil, List.nil_append, List.cons_append, List.append_nil, List.replicate, Nat.reduceSub, Nat.reduceAdd, Nat.reduceLeDiff, wipeD, unw, freeAt, Option.getD_some, List.all_cons, List.all_nil, Bool.and_true, Bool.and_self, Slot.free, Nat.zero_sub, Nat.sub_zero, Nat.sub_self, Nat.reduceEqDiff, id_eq, decide_true, decide_false, eq_self, c__law_next]
  refine ⟨by omega, by omega, ?_⟩
  rw [rng_isq]
  refine lcR_mapE (fun s => s = [.v (.fz (.int p)), .v (.fz (.tup (ns.map .int))), .un]) (fun m => .int (nx p ns m - m)) (by rw [isq_len]; unfold sizeLine; omega) rfl ?_ ?_
  · rintro m hm s rfl R hR
    simp -dsimp only [↓s_var, ↓s_c, ↓s_op, ↓s_test, ↓s_truth, ↓s_chain, ↓s_and, ↓s_or, ↓s_not, ↓s_andV, ↓s_orV, ↓s_notV, ↓s_if, ↓s_un, ↓s_nil, ↓s_cons, ↓s_cb, ↓s_call, ↓s_tup, ↓s_lst, ↓s_nopart, ↓s_part, ↓s_sl, ↓s_app, ↓s_items, ↓s_rng1, ↓s_rng2, ↓s_rng3, ↓s_next, ↓s_seq, ↓s_break, ↓s_cont, ↓s_drop, ↓s_ret, ↓s_retN, ↓s_ifS, ↓s_asg, ↓s_gNm, ↓s_gTup, ↓s_gNil, ↓s_gCons, ↓s_aug, ↓s_par, ↓s_for, ↓s_while, ↓s_lc, ↓s_lc2, ↓s_yes, ↓s_tvs0, ↓s_tvs1, ↓s_tvV, ↓s_tvS, ↓s_rvV, ↓s_rvS, ↓s_enum, ↓s_zip, ↓s_callIO, ↓fin_t, pins_nil, pins_p, pins_v, pins_un, lent1, slotL_s, ↓putB_1, ↓s_setI, ↓s_dput, ↓s_daug, ↓s_dnew, ↓s_disp, ↓s_flat0, ↓s_flat1, ↓s_never, ↓s_raise, ↓s_neverE, mkD, D.key, Option.map_some, dgetM, ↓br_t, ↓br_f, ↓s_fin0, ↓s_ref, ↓s_tupRg, ↓s_lstRg, ↓s_rg1, ↓s_rg2, hide, hideS, s_resV, s_resS, s_resL0, s_resL1, s_slotM, s_setM, s_frz, s_frzL, wD_some, got_v, got_p, ↓gset_un, ↓gset_v, vslot_v, fslot_v, asB_b, asI_i, asT_t, asL_l, hasL_l, one_1, two_2, int1_1, int2_2, int3_3, ix0, ix1, Slot.fr?, Slot.m?, Slot.put, opz_f1, o_iop, b_lt, o_addI, o_addS, o_addT, o_addL, o_mulI, o_mulT, o_mulL, o_ixL, o_ixT, o_ixW, o_ixC, o_ixS, o_slL, o_slT, o_slS, o_lenL, o_lenT, o_lenW, o_lenC, o_lenD, o_lenS, o_abs, o_intI, o_intB, o_str, o_list, o_tupL, o_tupT, o_isN, o_isNotN, o_isTy, o_neg, t_non, t_bl, t_int, t_str, t_lst, t_tup, t_wtu, t_dic, i_lst, i_tup, i_wtu, i_scr, i_str, q_lst, q_scr, q_tup, q_wtu, o_sort, o_inL, o_inT, o_eqI, o_neI, o_all, o_any, o_sum, o_max2, o_min2, o_eqB, o_neB, o_ixD, o_ixDi, p_str, p_int, s_frzD, hasD_md, small_md, D.seqs, D.tyN, List.getElem?_cons_zero, List.getElem?_cons_succ, List.set_cons_zero, List.set_cons_succ, List.map_cons, List.map_nil, Option.bind_some, Option.map_some, true_and, and_true, and_assoc, startD, Bool.not_true, Bool.not_false, List.length_cons, List.length_nil, List.nil_append, List.cons_append, List.append_nil, List.replicate, Nat.reduceSub, Nat.reduceAdd, Nat.reduceLeDiff, wipeD, unw, freeAt, Option.getD_some, List.all_cons, List.all_nil, Bool.and_true, Bool.and_self, Slot.free, Nat.zero_sub, Nat.sub_zero, Nat.sub_self, Nat.reduceEqDiff, id_eq, decide_true, decide_false, eq_self, c__law_next]
    refine ⟨ns, rfl, ok, hp60, ?_⟩
    try simp -dsimp only [↓s_var, ↓s_c, ↓s_op, ↓s_test, ↓s_truth, ↓s_chain, ↓s_and, ↓s_or, ↓s_not, ↓s_andV, ↓s_orV, ↓s_notV, ↓s_if, ↓s_un, ↓s_nil, ↓s_cons, ↓s_cb, ↓s_call, ↓s_tup, ↓s_lst, ↓s_nopart, ↓s_part, ↓s_sl, ↓s_app, ↓s_items, ↓s_rng1, ↓s_rng2, ↓s_rng3, ↓s_next, ↓s_seq, ↓s_break, ↓s_cont, ↓s_drop, ↓s_ret, ↓s_retN, ↓s_ifS, ↓s_asg, ↓s_gNm, ↓s_gTup, ↓s_gNil, ↓s_gCons, ↓s_aug, ↓s_par, ↓s_for, ↓s_while, ↓s_lc, ↓s_lc2, ↓s_yes, ↓s_tvs0, ↓s_tvs1, ↓s_tvV, ↓s_tvS, ↓s_rvV, ↓s_rvS, ↓s_enum, ↓s_zip, ↓s_callIO, ↓fin_t, pins_nil, pins_p, pins_v, pins_un, lent1, slotL_s, ↓putB_1, ↓s_setI, ↓s_dput, ↓s_daug, ↓s_dnew, ↓s_disp, ↓s_flat0, ↓s_flat1, ↓s_never, ↓s_raise, ↓s_neverE, mkD, D.key, Option.map_some, dgetM, ↓br_t, ↓br_f, ↓s_fin0, ↓s_ref, ↓s_tupRg, ↓s_lstRg, ↓s_rg1, ↓s_rg2, hide, hideS, s_resV, s_resS, s_resL0, s_resL1, s_slotM, s_setM, s_frz, s_frzL, wD_some, got_v, got_p, ↓gset_un, ↓gset_v, vslot_v, fslot_v, asB_b, asI_i, asT_t, asL_l, hasL_l, one_1, two_2, int1_1, int2_2, int3_3, ix0, ix1, Slot.fr?, Slot.m?, Slot.put, opz_f1, o_iop, b_lt, o_addI, o_addS, o_addT, o_addL, o_mulI, o_mulT, o_mulL, o_ixL, o_ixT, o_ixW, o_ixC, o_ixS, o_slL, o_slT, o_slS, o_lenL, o_lenT, o_lenW, o_lenC, o_lenD, o_lenS, o_abs, o_intI, o_intB, o_str, o_list, o_tupL, o_tupT, o_isN, o_isNotN, o_isTy, o_neg, t_non, t_bl, t_int, t_str, t_lst, t_tup, t_wtu, t_dic, i_lst, i_tup, i_wtu, i_scr, i_str, q_lst, q_scr, q_tup, q_wtu, o_sort, o_inL, o_inT, o_eqI, o_neI, o_all, o_any, o_sum, o_max2, o_min2, o_eqB, o_neB, o_ixD, o_ixDi, p_str, p_int, s_frzD, hasD_md, small_md, D.seqs, D.tyN, List.getElem?_cons_zero, List.getElem?_cons_succ, List.set_cons_zero, List.set_cons_succ, List.map_cons, List.map_nil, Option.bind_some, Option.map_some, true_and, and_true, and_assoc, startD, Bool.not_true, Bool.not_false, List.length_cons, List.length_nil, List.nil_append, List.cons_append, List.append_nil, List.replicate, Nat.reduceSub, Nat.reduceAdd, Nat.reduceLeDiff, wipeD, unw, freeAt, Option.getD_some, List.all_cons, List.all_nil, Bool.and_true, Bool.and_self, Slot.free, Nat.zero_sub, Nat.sub_zero, Nat.sub_self, Nat.reduceEqDiff, id_eq, decide_true, decide_false, eq_self, c__law_next]
    exact hR _ _ rfl rfl
  · rintro s' rfl
    simp -dsimp only [↓s_var, ↓s_c, ↓s_op, ↓s_test, ↓s_truth, ↓s_chain, ↓s_and, ↓s_or, ↓s_not, ↓s_andV, ↓s_orV, ↓s_notV, ↓s_if, ↓s_un, ↓s_nil, ↓s_cons, ↓s_cb, ↓s_call, ↓s_tup, ↓s_lst, ↓s_nopart, ↓s_part, ↓s_sl, ↓s_app, ↓s_items, ↓s_rng1, ↓s_rng2, ↓s_rng3, ↓s_next, ↓s_seq, ↓s_break, ↓s_cont, ↓s_drop, ↓s_ret, ↓s_retN, ↓s_ifS, ↓s_asg, ↓s_gNm, ↓s_gTup, ↓s_gNil, ↓s_gCons, ↓s_aug, ↓s_par, ↓s_for, ↓s_while, ↓s_lc, ↓s_lc2, ↓s_yes, ↓s_tvs0, ↓s_tvs1, ↓s_tvV, ↓s_tvS, ↓s_rvV, ↓s_rvS, ↓s_enum, ↓s_zip, ↓s_callIO, ↓fin_t, pins_nil, pins_p, pins_v, pins_un, lent1, slotL_s, ↓putB_1, ↓s_setI, ↓s_dput, ↓s_daug, ↓s_dnew, ↓s_disp, ↓s_flat0, ↓s_flat1, ↓s_never, ↓s_raise, ↓s_neverE, mkD, D.key, Option.map_some, dgetM, ↓br_t, ↓br_f, ↓s_fin0, ↓s_ref, ↓s_tupRg, ↓s_lstRg, ↓s_rg1, ↓s_rg2, hide, hideS, s_resV, s_resS, s_resL0, s_resL1, s_slotM, s_setM, s_frz, s_frzL, wD_some, got_v, got_p, ↓gset_un, ↓gset_v, vslot_v, fslot_v, asB_b, asI_i, asT_t, asL_l, hasL_l, one_1, two_2, int1_1, int2_2, int3_3, ix0, ix1, Slot.fr?, Slot.m?, Slot.put, opz_f1, o_iop, b_lt, o_addI, o_addS, o_addT, o_addL, o_mulI, o_mulT, o_mulL, o_ixL, o_ixT, o_ixW, o_ixC, o_ixS, o_slL, o_slT, o_slS, o_lenL, o_lenT, o_lenW, o_lenC, o_lenD, o_lenS, o_abs, o_intI, o_intB, o_str, o_list, o_tupL, o_tupT, o_isN, o_isNotN, o_isTy, o_neg, t_non, t_bl, t_int, t_str, t_lst, t_tup, t_wtu, t_dic, i_lst, i_tup, i_wtu, i_scr, i_str, q_lst, q_scr, q_tup, q_wtu, o_sort, o_inL, o_inT, o_eqI, o_neI, o_all, o_any, o_sum, o_max2, o_min2, o_eqB, o_neB, o_ixD, o_ixDi, p_str, p_int, s_frzD, hasD_md, small_md, D.seqs, D.tyN, List.getElem?_cons_zero, List.getElem?_cons_succ, List.set_cons_zero, List.set_cons_succ, List.map_cons, List.map_nil, Option.bind_some, Option.map_some, true_and, and_true, and_assoc, startD, Bool.not_true, Bool.not_false, List.length_cons, List.length_nil, List.nil_append, List.cons_append, List.append_nil, List.replicate, Nat.reduceSub, Nat.reduceAdd, Nat.reduceLeDiff, wipeD, unw, freeAt, Option.getD_some, List.all_cons, List.all_nil, Bool.and_true, Bool.and_self, Slot.free, Nat.zero_sub, Nat.sub_zero, Nat.sub_self, Nat.reduceEqDiff, id_eq, decide_true, decide_false, eq_self, c__law_next]
    have hne : (isq 0 p.toNat).map (fun m => nx p ns m - m) ≠ [] := by
      intro e
      have := congrArg List.length e
      rw [List.length_map, isq_len] at this
      simp at this
      omega
    refine max_of (intL_mapf _ _) (lmax_mem hne) (fun y hy => lmax_le hy) ?_
    exact h2
/-! ### _law_subsets -/
def prE (p : Int × List Int) : D := .tup [.int p.1, tupI p.2]
def c__law_subsets : CT
  | [.fz (.tup xs)], R, _ => ∃ ns : List Int, xs = ns.map .int ∧ ns.length ≤ 9 ∧ ∀ zs : List (List Int), zs.Perm (subsF ns) → zs.Pairwise (fun a b => leR a b = true) → R (.ml (zs.map tupI)) []
  | _, _, _ => False
theorem subsF_len (ns : List Int) : (subsF ns).length = 2 ^ ns.length := by
  unfold subsF
  suffices h : ∀ (l : List Int) (f : List (List Int)), (l.foldl (fun f x => f ++ f.map (· ++ [x])) f).length = f.length * 2 ^ l.length by simpa using h ns [[]]
  intro l
  induction l with
  | nil => intro f; simp
  | cons x l ih => intro f; rw [List.foldl_cons, ih, List.length_append, List.length_map, List.length_cons, Nat.pow_succ, ← Nat.two_mul, Nat.mul_comm 2, Nat.mul_assoc, Nat.mul_comm 2]
theorem subsF_mem {ns y : List Int} (h : y ∈ subsF ns) : y.Sublist ns := by
  unfold subsF at h
  suffices hh : ∀ (l : List Int) (f : List (List Int)) (pre : List Int), (∀ y ∈ f, y.Sublist pre) → ∀ y ∈ l.foldl (fun f x => f ++ f.map (· ++ [x])) f, y.Sublist (pre ++ l) by simpa using hh ns [[]] [] (by simp) y h
  intro l
  induction l with
  | nil => intro f pre h; simpa using h
  | cons x l ih =>
    intro f pre h y hy
    rw [List.foldl_cons] at hy
    have := ih (f ++ f.map (· ++ [x])) (pre ++ [x]) (fun z hz => ?_) y hy
    · simpa using this
    · rcases List.mem_append.mp hz with q | q
      · exact (h z q).trans (List.sublist_append_left _ _)
      · obtain ⟨z', hz', rfl⟩ := List.mem_map.mp q
        exact (h z' hz').append (List.Sublist.refl _)
theorem sc__law_subsets : FnScope N__law_subsets ["things"] (defScope s__law_subsets) := ⟨rfl, rfl, rfl, by decide +kernel, rfl, by decide +kernel, by decide +kernel⟩
theorem ok__law_subsets (T : Txt K mg C_InvalidPlan) (F : TopFn K mg "_law_subsets" s__law_subsets ["things"]) : FnAt P w K mg base TB 1 "_law_subsets" ["things"] false c__law_subsets := by
  have nd := sc__law_subsets.nd
  refine fnAt F sc__law_subsets (fun ms R X h => by unfold c__law_subsets at h; split at h <;> first | rfl | exact h.elim) (fun h => by cases h) fun f cdv A outer s H E x0 Xd hr => ?_
  refine ⟨_, _, (dss_cons (ds_set (i := 1) nd rfl (by first | exact Or.inl rfl | exact Or.inr rfl) (de_lst (da_cons (de_tup da_nil) da_nil)))
      (dss_cons (ds_for passD rfl (di_any rfl (dv 0)) (dg_name (i := 2) nd rfl (by first | exact Or.inl rfl | exact Or.inr rfl))
      (dss_one (ds_set (i := 1) nd rfl (by first | exact Or.inl rfl | exact Or.inr rfl) (de_op (op_addA rfl) od_add (dv 1) (de_lc (own := [("row", 4)]) rfl nd (di_any rfl (dv 1)) (blkOk_by (N := N__law_subsets) (sc := defScope s__law_subsets) (by decide +kernel)) (GOnly.name (by decide)) GMono.name (fun _ _ _ _ _ => (dg_name (i := 4) nd rfl (by first | exact Or.inl rfl | exact Or.inr rfl))) (fun _ _ _ _ _ => dts_nil) (fun _ _ _ _ _ => (de_op (op_addA rfl) od_add (dv 4) (de_tup (da_cons (dv 2) da_nil)))))))))
      (dss_one (ds_ret (de_lc (own := [("size", 3), ("row", 4)]) rfl nd (di_any rfl (de_callB (call_sortD rfl (hu99 hr)) cd_sort (by rfl) T.n_sorted bo_sorted (da_cons (de_lc (own := [("row", 4)]) rfl nd (di_any rfl (dv 1)) (blkOk_by (N := N__law_subsets) (sc := defScope s__law_subsets) (by decide +kernel)) (GOnly.name (by decide)) GMono.name (fun _ _ _ _ _ => (dg_name (i := 4) nd rfl (by first | exact Or.inl rfl | exact Or.inr rfl))) (fun _ _ _ _ _ => dts_nil) (fun _ _ _ _ _ => (de_tup (da_cons (de_callB (call_lenA rfl) cd_len (by rfl) T.n_len bo_len (da_cons (dv 4) da_nil)) (da_cons (dv 4) da_nil))))) da_nil))) (blkOk_by (N := N__law_subsets) (sc := defScope s__law_subsets) (by decide +kernel)) (GOnly.tup (GOnlys.cons GMono.name (GMonos.cons GMono.name GMonos.nil) (GOnly.name (by decide)) (GOnlys.cons GMono.name GMonos.nil (GOnly.name (by decide)) GOnlys.nil))) (GMono.tup (GMonos.cons GMono.name (GMonos.cons GMono.name GMonos.nil))) (fun _ _ _ _ _ => (dg_tup (n := 2) rfl rfl (dgs_cons (dg_name (i := 3) nd rfl (by first | exact Or.inl rfl | exact Or.inr rfl)) (dgs_cons (dg_name (i := 4) nd rfl (by first | exact Or.inl rfl | exact Or.inr rfl)) dgs_nil)))) (fun _ _ _ _ _ => dts_nil) (fun _ _ _ _ _ => (dv 4))))))), ?_⟩
  intro ms Rd h
  unfold c__law_subsets at h
  split at h <;> first | exact (show False from h).elim | skip
  rename_i xs
  obtain ⟨ns, rfl, h9, q⟩ := h
  simp -dsimp only [↓s_var, ↓s_c, ↓s_op, ↓s_test, ↓s_truth, ↓s_chain, ↓s_and, ↓s_or, ↓s_not, ↓s_andV, ↓s_orV, ↓s_notV, ↓s_if, ↓s_un, ↓s_nil, ↓s_cons, ↓s_cb, ↓s_call, ↓s_tup, ↓s_lst, ↓s_nopart, ↓s_part, ↓s_sl, ↓s_app, ↓s_items, ↓s_rng1, ↓s_rng2, ↓s_rng3, ↓s_next, ↓s_seq, ↓s_break, ↓s_cont, ↓s_drop, ↓s_ret, ↓s_retN, ↓s_ifS, ↓s_asg, ↓s_gNm, ↓s_gTup, ↓s_gNil, ↓s_gCons, ↓s_aug, ↓s_par, ↓s_for, ↓s_while, ↓s_lc, ↓s_lc2, ↓s_yes, ↓s_tvs0, ↓s_tvs1, ↓s_tvV, ↓s_tvS, ↓s_rvV, ↓s_rvS, ↓s_enum, ↓s_zip, ↓s_callIO, ↓fin_t, pins_nil, pins_p, pins_v, pins_un, lent1, slotL_s, ↓putB_1, ↓s_setI, ↓s_dput, ↓s_daug, ↓s_dnew, ↓s_disp, ↓s_flat0, ↓s_flat1, ↓s_never, ↓s_raise, ↓s_neverE, mkD, D.key, Option.map_some, dgetM, ↓br_t, ↓br_f, ↓s_fin0, ↓s_ref, ↓s_tupRg, ↓s_lstRg, ↓s_rg1, ↓s_rg2, hide, hideS, s_resV, s_resS, s_resL0, s_resL1, s_slotM, s_setM, s_frz, s_frzL, wD_some, got_v, got_p, ↓gset_un, ↓gset_v, vslot_v, fslot_v, asB_b, asI_i, asT_t, asL_l, hasL_l, one_1, two_2, int1_1, int2_2, int3_3, ix0, ix1, Slot.fr?, Slot.m?, Slot.put, opz_f1, o_iop, b_lt, o_addI, o_addS, o_addT, o_addL, o_mulI, o_mulT, o_mulL, o_ixL, o_ixT, o_ixW, o_ixC, o_ixS, o_slL, o_slT, o_slS, o_lenL, o_lenT, o_lenW, o_lenC, o_lenD, o_lenS, o_abs, o_intI, o_intB, o_str, o_list, o_tupL, o_tupT, o_isN, o_isNotN, o_isTy, o_neg, t_non, t_bl, t_int, t_str, t_lst, t_tup, t_wtu, t_dic, i_lst, i_tup, i_wtu, i_scr, i_str, q_lst, q_scr, q_tup, q_wtu, o_sort, o_inL, o_inT, o_eqI, o_neI, o_all, o_any, o_sum, o_max2, o_min2, o_eqB, o_neB, o_ixD, o_ixDi, p_str, p_int, s_frzD, hasD_md, small_md, D.seqs, D.tyN, List.getElem?_cons_zero, List.getElem?_cons_succ, List.set_cons_zero, List.set_cons_succ, List.map_cons, List.map_nil, Option.bind_some, Option.map_some, true_and, and_true, and_assoc, startD, Bool.not_true, Bool.not_false, List.length_cons, List.length_nil, List.nil_append, List.cons_append, List.append_nil, List.replicate, Nat.reduceSub, Nat.reduceAdd, Nat.reduceLeDiff, wipeD, unw, freeAt, Option.getD_some, List.all_cons, List.all_nil, Bool.and_true, Bool.and_self, Slot.free, Nat.zero_sub, Nat.sub_zero, Nat.sub_self, Nat.reduceEqDiff, id_eq, decide_true, decide_false, eq_self]
  refine ⟨by decide, by decide, ?_⟩
  refine for_ofE (fun i s => ∃ (m : M) (a : DL.Slot), s = [.v (.fz (.tup (ns.map .int))), .v m, a, .un, .un] ∧ a.pinned = false ∧ m = .ml ((subsF (ns.take i)).map tupI)) ⟨_, _, rfl, rfl, rfl⟩ ?_ ?_
  · rintro i x s hx ⟨m, a, rfl, ha, rfl⟩ N B R hN - -
    have hi := (List.getElem?_eq_some_iff.mp hx).1
    have hstep : subsF (ns.take (i + 1)) = subsF (ns.take i) ++ (subsF (ns.take i)).map (· ++ [x]) := by
      unfold subsF
      rw [fold_take hx]
    have hsl : (subsF (ns.take i)).length ≤ 256 := by
      rw [subsF_len]
      exact Nat.pow_le_pow_right (by decide) (show (ns.take i).length ≤ 8 by simp; omega)
    have hml : ∀ y ∈ subsF (ns.take i), y.length ≤ 8 := fun y hy => by
      have := (subsF_mem hy).length_le
      simp at this
      omega
    rw [hstep] at hN
    generalize subsF (ns.take i) = F at hN hsl hml ⊢
    simp -dsimp only [↓s_var, ↓s_c, ↓s_op, ↓s_test, ↓s_truth, ↓s_chain, ↓s_and, ↓s_or, ↓s_not, ↓s_andV, ↓s_orV, ↓s_notV, ↓s_if, ↓s_un, ↓s_nil, ↓s_cons, ↓s_cb, ↓s_call, ↓s_tup, ↓s_lst, ↓s_nopart, ↓s_part, ↓s_sl, ↓s_app, ↓s_items, ↓s_rng1, ↓s_rng2, ↓s_rng3, ↓s_next, ↓s_seq, ↓s_break, ↓s_cont, ↓s_drop, ↓s_ret, ↓s_retN, ↓s_ifS, ↓s_asg, ↓s_gNm, ↓s_gTup, ↓s_gNil, ↓s_gCons, ↓s_aug, ↓s_par, ↓s_for, ↓s_while, ↓s_lc, ↓s_lc2, ↓s_yes, ↓s_tvs0, ↓s_tvs1, ↓s_tvV, ↓s_tvS, ↓s_rvV, ↓s_rvS, ↓s_enum, ↓s_zip, ↓s_callIO, ↓fin_t, pins_nil, pins_p, pins_v, pins_un, lent1, slotL_s, ↓putB_1, ↓s_setI, ↓s_dput, ↓s_daug, ↓s_dnew, ↓s_disp, ↓s_flat0, ↓s_flat1, ↓s_never, ↓s_raise, ↓s_neverE, mkD, D.key, Option.map_some, dgetM, ↓br_t, ↓br_f, ↓s_fin0, ↓s_ref, ↓s_tupRg, ↓s_lstRg, ↓s_rg1, ↓s_rg2, hide, hideS, s_resV, s_resS, s_resL0, s_resL1, s_slotM, s_setM, s_frz, s_frzL, wD_some, got_v, got_p, ↓gset_un, ↓gset_v, vslot_v, fslot_v, asB_b, asI_i, asT_t, asL_l, hasL_l, one_1, two_2, int1_1, int2_2, int3_3, ix0, ix1, Slot.fr?, Slot.m?, Slot.put, opz_f1, o_iop, b_lt, o_addI, o_addS, o_addT, o_addL, o_mulI, o_mulT, o_mulL, o_ixL, o_ixT, o_ixW, o_ixC, o_ixS, o_slL, o_slT, o_slS, o_lenL, o_lenT, o_lenW, o_lenC, o_lenD, o_lenS, o_abs, o_intI, o_intB, o_str, o_list, o_tupL, o_tupT, o_isN, o_isNotN, o_isTy, o_neg, t_non, t_bl, t_int, t_str, t_lst, t_tup, t_wtu, t_dic, i_lst, i_tup, i_wtu, i_scr, i_str, q_lst, q_scr, q_tup, q_wtu, o_sort, o_inL, o_inT, o_eqI, o_neI, o_all, o_any, o_sum, o_max2, o_min2, o_eqB, o_neB, o_ixD, o_ixDi, p_str, p_int, s_frzD, hasD_md, small_md, D.seqs, D.tyN, List.getElem?_cons_zero, List.getElem?_cons_succ, List.set_cons_zero, List.set_cons_succ, List.map_cons, List.map_nil, Option.bind_some, Option.map_some, true_and, and_true, and_assoc, startD, Bool.not_true, Bool.not_false, List.length_cons, List.length_nil, List.nil_append, List.cons_append, List.append_nil, List.replicate, Nat.reduceSub, Nat.reduceAdd, Nat.reduceLeDiff, wipeD, unw, freeAt, Option.getD_some, List.all_cons, List.all_nil, Bool.and_true, Bool.and_self, Slot.free, Nat.zero_sub, Nat.sub_zero, Nat.sub_self, Nat.reduceEqDiff, id_eq, decide_true, decide_false, eq_self,  gset_free ha]
    refine lcR_mapE (fun s => s = [.v (.fz (.tup (ns.map .int))), .v (.fz (.lst (F.map tupI))), .v (.fz (.int x)), .un, .un]) (fun y => tupI (y ++ [x])) (by unfold sizeLine; omega) rfl ?_ ?_
    · rintro y hy s rfl R hR
      have := hml y hy
      unfold tupI
      simp -dsimp only [↓s_var, ↓s_c, ↓s_op, ↓s_test, ↓s_truth, ↓s_chain, ↓s_and, ↓s_or, ↓s_not, ↓s_andV, ↓s_orV, ↓s_notV, ↓s_if, ↓s_un, ↓s_nil, ↓s_cons, ↓s_cb, ↓s_call, ↓s_tup, ↓s_lst, ↓s_nopart, ↓s_part, ↓s_sl, ↓s_app, ↓s_items, ↓s_rng1, ↓s_rng2, ↓s_rng3, ↓s_next, ↓s_seq, ↓s_break, ↓s_cont, ↓s_drop, ↓s_ret, ↓s_retN, ↓s_ifS, ↓s_asg, ↓s_gNm, ↓s_gTup, ↓s_gNil, ↓s_gCons, ↓s_aug, ↓s_par, ↓s_for, ↓s_while, ↓s_lc, ↓s_lc2, ↓s_yes, ↓s_tvs0, ↓s_tvs1, ↓s_tvV, ↓s_tvS, ↓s_rvV, ↓s_rvS, ↓s_enum, ↓s_zip, ↓s_callIO, ↓fin_t, pins_nil, pins_p, pins_v, pins_un, lent1, slotL_s, ↓putB_1, ↓s_setI, ↓s_dput, ↓s_daug, ↓s_dnew, ↓s_disp, ↓s_flat0, ↓s_flat1, ↓s_never, ↓s_raise, ↓s_neverE, mkD, D.key, Option.map_some, dgetM, ↓br_t, ↓br_f, ↓s_fin0, ↓s_ref, ↓s_tupRg, ↓s_lstRg, ↓s_rg1, ↓s_rg2, hide, hideS, s_resV, s_resS, s_resL0, s_resL1, s_slotM, s_setM, s_frz, s_frzL, wD_some, got_v, got_p, ↓gset_un, ↓gset_v, vslot_v, fslot_v, asB_b, asI_i, asT_t, asL_l, hasL_l, one_1, two_2, int1_1, int2_2, int3_3, ix0, ix1, Slot.fr?, Slot.m?, Slot.put, opz_f1, o_iop, b_lt, o_addI, o_addS, o_addT, o_addL, o_mulI, o_mulT, o_mulL, o_ixL, o_ixT, o_ixW, o_ixC, o_ixS, o_slL, o_slT, o_slS, o_lenL, o_lenT, o_lenW, o_lenC, o_lenD, o_lenS, o_abs, o_intI, o_intB, o_str, o_list, o_tupL, o_tupT, o_isN, o_isNotN, o_isTy, o_neg, t_non, t_bl, t_int, t_str, t_lst, t_tup, t_wtu, t_dic, i_lst, i_tup, i_wtu, i_scr, i_str, q_lst, q_scr, q_tup, q_wtu, o_sort, o_inL, o_inT, o_eqI, o_neI, o_all, o_any, o_sum, o_max2, o_min2, o_eqB, o_neB, o_ixD, o_ixDi, p_str, p_int, s_frzD, hasD_md, small_md, D.seqs, D.tyN, List.getElem?_cons_zero, List.getElem?_cons_succ, List.set_cons_zero, List.set_cons_succ, List.map_cons, List.map_nil, Option.bind_some, Option.map_some, true_and, and_true, and_assoc, startD, Bool.not_true, Bool.not_false, List.length_cons, List.length_nil, List.nil_append, List.cons_append, List.append_nil, List.replicate, Nat.reduceSub, Nat.reduceAdd, Nat.reduceLeDiff, wipeD, unw, freeAt, Option.getD_some, List.all_cons, List.all_nil, Bool.and_true, Bool.and_self, Slot.free, Nat.zero_sub, Nat.sub_zero, Nat.sub_self, Nat.reduceEqDiff, id_eq, decide_true, decide_false, eq_self]
      refine ⟨by decide, by simp; unfold sizeLine; omega, hR _ _ (by simp [tupI, M.frz]) rfl⟩
    · rintro s' rfl
      simp -dsimp only [↓s_var, ↓s_c, ↓s_op, ↓s_test, ↓s_truth, ↓s_chain, ↓s_and, ↓s_or, ↓s_not, ↓s_andV, ↓s_orV, ↓s_notV, ↓s_if, ↓s_un, ↓s_nil, ↓s_cons, ↓s_cb, ↓s_call, ↓s_tup, ↓s_lst, ↓s_nopart, ↓s_part, ↓s_sl, ↓s_app, ↓s_items, ↓s_rng1, ↓s_rng2, ↓s_rng3, ↓s_next, ↓s_seq, ↓s_break, ↓s_cont, ↓s_drop, ↓s_ret, ↓s_retN, ↓s_ifS, ↓s_asg, ↓s_gNm, ↓s_gTup, ↓s_gNil, ↓s_gCons, ↓s_aug, ↓s_par, ↓s_for, ↓s_while, ↓s_lc, ↓s_lc2, ↓s_yes, ↓s_tvs0, ↓s_tvs1, ↓s_tvV, ↓s_tvS, ↓s_rvV, ↓s_rvS, ↓s_enum, ↓s_zip, ↓s_callIO, ↓fin_t, pins_nil, pins_p, pins_v, pins_un, lent1, slotL_s, ↓putB_1, ↓s_setI, ↓s_dput, ↓s_daug, ↓s_dnew, ↓s_disp, ↓s_flat0, ↓s_flat1, ↓s_never, ↓s_raise, ↓s_neverE, mkD, D.key, Option.map_some, dgetM, ↓br_t, ↓br_f, ↓s_fin0, ↓s_ref, ↓s_tupRg, ↓s_lstRg, ↓s_rg1, ↓s_rg2, hide, hideS, s_resV, s_resS, s_resL0, s_resL1, s_slotM, s_setM, s_frz, s_frzL, wD_some, got_v, got_p, ↓gset_un, ↓gset_v, vslot_v, fslot_v, asB_b, asI_i, asT_t, asL_l, hasL_l, one_1, two_2, int1_1, int2_2, int3_3, ix0, ix1, Slot.fr?, Slot.m?, Slot.put, opz_f1, o_iop, b_lt, o_addI, o_addS, o_addT, o_addL, o_mulI, o_mulT, o_mulL, o_ixL, o_ixT, o_ixW, o_ixC, o_ixS, o_slL, o_slT, o_slS, o_lenL, o_lenT, o_lenW, o_lenC, o_lenD, o_lenS, o_abs, o_intI, o_intB, o_str, o_list, o_tupL, o_tupT, o_isN, o_isNotN, o_isTy, o_neg, t_non, t_bl, t_int, t_str, t_lst, t_tup, t_wtu, t_dic, i_lst, i_tup, i_wtu, i_scr, i_str, q_lst, q_scr, q_tup, q_wtu, o_sort, o_inL, o_inT, o_eqI, o_neI, o_all, o_any, o_sum, o_max2, o_min2, o_eqB, o_neB, o_ixD, o_ixDi, p_str, p_int, s_frzD, hasD_md, small_md, D.seqs, D.tyN, List.getElem?_cons_zero, List.getElem?_cons_succ, List.set_cons_zero, List.set_cons_succ, List.map_cons, List.map_nil, Option.bind_some, Option.map_some, true_and, and_true, and_assoc, startD, Bool.not_true, Bool.not_false, List.length_cons, List.length_nil, List.nil_append, List.cons_append, List.append_nil, List.replicate, Nat.reduceSub, Nat.reduceAdd, Nat.reduceLeDiff, wipeD, unw, freeAt, Option.getD_some, List.all_cons, List.all_nil, Bool.and_true, Bool.and_self, Slot.free, Nat.zero_sub, Nat.sub_zero, Nat.sub_self, Nat.reduceEqDiff, id_eq, decide_true, decide_false, eq_self]
      refine ⟨by simp; unfold sizeLine; omega, hN _ ⟨_, _, rfl, rfl, by simp [Function.comp_def]⟩⟩
  · rintro s ⟨m, a, rfl, ha, rfl⟩
    rw [List.take_length]
    have hsl : (subsF ns).length ≤ 512 := by
      rw [subsF_len]
      exact Nat.pow_le_pow_right (by decide) h9
    have hml : ∀ y ∈ subsF ns, y.length ≤ 9 := fun y hy => by
      have := (subsF_mem hy).length_le
      omega
    simp -dsimp only [↓s_var, ↓s_c, ↓s_op, ↓s_test, ↓s_truth, ↓s_chain, ↓s_and, ↓s_or, ↓s_not, ↓s_andV, ↓s_orV, ↓s_notV, ↓s_if, ↓s_un, ↓s_nil, ↓s_cons, ↓s_cb, ↓s_call, ↓s_tup, ↓s_lst, ↓s_nopart, ↓s_part, ↓s_sl, ↓s_app, ↓s_items, ↓s_rng1, ↓s_rng2, ↓s_rng3, ↓s_next, ↓s_seq, ↓s_break, ↓s_cont, ↓s_drop, ↓s_ret, ↓s_retN, ↓s_ifS, ↓s_asg, ↓s_gNm, ↓s_gTup, ↓s_gNil, ↓s_gCons, ↓s_aug, ↓s_par, ↓s_for, ↓s_while, ↓s_lc, ↓s_lc2, ↓s_yes, ↓s_tvs0, ↓s_tvs1, ↓s_tvV, ↓s_tvS, ↓s_rvV, ↓s_rvS, ↓s_enum, ↓s_zip, ↓s_callIO, ↓fin_t, pins_nil, pins_p, pins_v, pins_un, lent1, slotL_s, ↓putB_1, ↓s_setI, ↓s_dput, ↓s_daug, ↓s_dnew, ↓s_disp, ↓s_flat0, ↓s_flat1, ↓s_never, ↓s_raise, ↓s_neverE, mkD, D.key, Option.map_some, dgetM, ↓br_t, ↓br_f, ↓s_fin0, ↓s_ref, ↓s_tupRg, ↓s_lstRg, ↓s_rg1, ↓s_rg2, hide, hideS, s_resV, s_resS, s_resL0, s_resL1, s_slotM, s_setM, s_frz, s_frzL, wD_some, got_v, got_p, ↓gset_un, ↓gset_v, vslot_v, fslot_v, asB_b, asI_i, asT_t, asL_l, hasL_l, one_1, two_2, int1_1, int2_2, int3_3, ix0, ix1, Slot.fr?, Slot.m?, Slot.put, opz_f1, o_iop, b_lt, o_addI, o_addS, o_addT, o_addL, o_mulI, o_mulT, o_mulL, o_ixL, o_ixT, o_ixW, o_ixC, o_ixS, o_slL, o_slT, o_slS, o_lenL, o_lenT, o_lenW, o_lenC, o_lenD, o_lenS, o_abs, o_intI, o_intB, o_str, o_list, o_tupL, o_tupT, o_isN, o_isNotN, o_isTy, o_neg, t_non, t_bl, t_int, t_str, t_lst, t_tup, t_wtu, t_dic, i_lst, i_tup, i_wtu, i_scr, i_str, q_lst, q_scr, q_tup, q_wtu, o_sort, o_inL, o_inT, o_eqI, o_neI, o_all, o_any, o_sum, o_max2, o_min2, o_eqB, o_neB, o_ixD, o_ixDi, p_str, p_int, s_frzD, hasD_md, small_md, D.seqs, D.tyN, List.getElem?_cons_zero, List.getElem?_cons_succ, List.set_cons_zero, List.set_cons_succ, List.map_cons, List.map_nil, Option.bind_some, Option.map_some, true_and, and_true, and_assoc, startD, Bool.not_true, Bool.not_false, List.length_cons, List.length_nil, List.nil_append, List.cons_append, List.append_nil, List.replicate, Nat.reduceSub, Nat.reduceAdd, Nat.reduceLeDiff, wipeD, unw, freeAt, Option.getD_some, List.all_cons, List.all_nil, Bool.and_true, Bool.and_self, Slot.free, Nat.zero_sub, Nat.sub_zero, Nat.sub_self, Nat.reduceEqDiff, id_eq, decide_true, decide_false, eq_self]
    refine lcR_mapE (fun s => s = [.v (.fz (.tup (ns.map .int))), .v (.fz (.lst ((subsF ns).map tupI))), a, .un, .un]) (fun y => prE ((y.length : Int), y)) (by unfold sizeLine; omega) rfl ?_ ?_
    · rintro y hy s rfl R hR
      unfold tupI
      simp -dsimp only [↓s_var, ↓s_c, ↓s_op, ↓s_test, ↓s_truth, ↓s_chain, ↓s_and, ↓s_or, ↓s_not, ↓s_andV, ↓s_orV, ↓s_notV, ↓s_if, ↓s_un, ↓s_nil, ↓s_cons, ↓s_cb, ↓s_call, ↓s_tup, ↓s_lst, ↓s_nopart, ↓s_part, ↓s_sl, ↓s_app, ↓s_items, ↓s_rng1, ↓s_rng2, ↓s_rng3, ↓s_next, ↓s_seq, ↓s_break, ↓s_cont, ↓s_drop, ↓s_ret, ↓s_retN, ↓s_ifS, ↓s_asg, ↓s_gNm, ↓s_gTup, ↓s_gNil, ↓s_gCons, ↓s_aug, ↓s_par, ↓s_for, ↓s_while, ↓s_lc, ↓s_lc2, ↓s_yes, ↓s_tvs0, ↓s_tvs1, ↓s_tvV, ↓s_tvS, ↓s_rvV, ↓s_rvS, ↓s_enum, ↓s_zip, ↓s_callIO, ↓fin_t, pins_nil, pins_p, pins_v, pins_un, lent1, slotL_s, ↓putB_1, ↓s_setI, ↓s_dput, ↓s_daug, ↓s_dnew, ↓s_disp, ↓s_flat0, ↓s_flat1, ↓s_never, ↓s_raise, ↓s_neverE, mkD, D.key, Option.map_some, dgetM, ↓br_t, ↓br_f, ↓s_fin0, ↓s_ref, ↓s_tupRg, ↓s_lstRg, ↓s_rg1, ↓s_rg2, hide, hideS, s_resV, s_resS, s_resL0, s_resL1, s_slotM, s_setM, s_frz, s_frzL, wD_some, got_v, got_p, ↓gset_un, ↓gset_v, vslot_v, fslot_v, asB_b, asI_i, asT_t, asL_l, hasL_l, one_1, two_2, int1_1, int2_2, int3_3, ix0, ix1, Slot.fr?, Slot.m?, Slot.put, opz_f1, o_iop, b_lt, o_addI, o_addS, o_addT, o_addL, o_mulI, o_mulT, o_mulL, o_ixL, o_ixT, o_ixW, o_ixC, o_ixS, o_slL, o_slT, o_slS, o_lenL, o_lenT, o_lenW, o_lenC, o_lenD, o_lenS, o_abs, o_intI, o_intB, o_str, o_list, o_tupL, o_tupT, o_isN, o_isNotN, o_isTy, o_neg, t_non, t_bl, t_int, t_str, t_lst, t_tup, t_wtu, t_dic, i_lst, i_tup, i_wtu, i_scr, i_str, q_lst, q_scr, q_tup, q_wtu, o_sort, o_inL, o_inT, o_eqI, o_neI, o_all, o_any, o_sum, o_max2, o_min2, o_eqB, o_neB, o_ixD, o_ixDi, p_str, p_int, s_frzD, hasD_md, small_md, D.seqs, D.tyN, List.getElem?_cons_zero, List.getElem?_cons_succ, List.set_cons_zero, List.set_cons_succ, List.map_cons, List.map_nil, Option.bind_some, Option.map_some, true_and, and_true, and_assoc, startD, Bool.not_true, Bool.not_false, List.length_cons, List.length_nil, List.nil_append, List.cons_append, List.append_nil, List.replicate, Nat.reduceSub, Nat.reduceAdd, Nat.reduceLeDiff, wipeD, unw, freeAt, Option.getD_some, List.all_cons, List.all_nil, Bool.and_true, Bool.and_self, Slot.free, Nat.zero_sub, Nat.sub_zero, Nat.sub_self, Nat.reduceEqDiff, id_eq, decide_true, decide_false, eq_self]
      refine ⟨by decide, hR _ _ ?_ rfl⟩
      simp [prE, tupI, M.frz]
    · rintro s' rfl
      have hpe : Enc 2 prE (fun p => True ∧ True) := Enc.int.pair Enc.tupI
      have hpl : EncL prE (fun p => True ∧ True) _ := EncL.pair Enc.int EncL.int EncL.tupI
      have e0 : (subsF ns).map (fun y => prE ((y.length : Int), y)) = ((subsF ns).map fun y => ((y.length : Int), y)).map prE := by simp [Function.comp_def]
      rw [e0]
      obtain ⟨zs, hz1, hz2, hz3⟩ := hpl.sort ((subsF ns).map fun y => ((y.length : Int), y)) fun _ _ => ⟨trivial, trivial⟩
      simp -dsimp only [↓s_var, ↓s_c, ↓s_op, ↓s_test, ↓s_truth, ↓s_chain, ↓s_and, ↓s_or, ↓s_not, ↓s_andV, ↓s_orV, ↓s_notV, ↓s_if, ↓s_un, ↓s_nil, ↓s_cons, ↓s_cb, ↓s_call, ↓s_tup, ↓s_lst, ↓s_nopart, ↓s_part, ↓s_sl, ↓s_app, ↓s_items, ↓s_rng1, ↓s_rng2, ↓s_rng3, ↓s_next, ↓s_seq, ↓s_break, ↓s_cont, ↓s_drop, ↓s_ret, ↓s_retN, ↓s_ifS, ↓s_asg, ↓s_gNm, ↓s_gTup, ↓s_gNil, ↓s_gCons, ↓s_aug, ↓s_par, ↓s_for, ↓s_while, ↓s_lc, ↓s_lc2, ↓s_yes, ↓s_tvs0, ↓s_tvs1, ↓s_tvV, ↓s_tvS, ↓s_rvV, ↓s_rvS, ↓s_enum, ↓s_zip, ↓s_callIO, ↓fin_t, pins_nil, pins_p, pins_v, pins_un, lent1, slotL_s, ↓putB_1, ↓s_setI, ↓s_dput, ↓s_daug, ↓s_dnew, ↓s_disp, ↓s_flat0, ↓s_flat1, ↓s_never, ↓s_raise, ↓s_neverE, mkD, D.key, Option.map_some, dgetM, ↓br_t, ↓br_f, ↓s_fin0, ↓s_ref, ↓s_tupRg, ↓s_lstRg, ↓s_rg1, ↓s_rg2, hide, hideS, s_resV, s_resS, s_resL0, s_resL1, s_slotM, s_setM, s_frz, s_frzL, wD_some, got_v, got_p, ↓gset_un, ↓gset_v, vslot_v, fslot_v, asB_b, asI_i, asT_t, asL_l, hasL_l, one_1, two_2, int1_1, int2_2, int3_3, ix0, ix1, Slot.fr?, Slot.m?, Slot.put, opz_f1, o_iop, b_lt, o_addI, o_addS, o_addT, o_addL, o_mulI, o_mulT, o_mulL, o_ixL, o_ixT, o_ixW, o_ixC, o_ixS, o_slL, o_slT, o_slS, o_lenL, o_lenT, o_lenW, o_lenC, o_lenD, o_lenS, o_abs, o_intI, o_intB, o_str, o_list, o_tupL, o_tupT, o_isN, o_isNotN, o_isTy, o_neg, t_non, t_bl, t_int, t_str, t_lst, t_tup, t_wtu, t_dic, i_lst, i_tup, i_wtu, i_scr, i_str, q_lst, q_scr, q_tup, q_wtu, o_sort, o_inL, o_inT, o_eqI, o_neI, o_all, o_any, o_sum, o_max2, o_min2, o_eqB, o_neB, o_ixD, o_ixDi, p_str, p_int, s_frzD, hasD_md, small_md, D.seqs, D.tyN, List.getElem?_cons_zero, List.getElem?_cons_succ, List.set_cons_zero, List.set_cons_succ, List.map_cons, List.map_nil, Option.bind_some, Option.map_some, true_and, and_true, and_assoc, startD, Bool.not_true, Bool.not_false, List.length_cons, List.length_nil, List.nil_append, List.cons_append, List.append_nil, List.replicate, Nat.reduceSub, Nat.reduceAdd, Nat.reduceLeDiff, wipeD, unw, freeAt, Option.getD_some, List.all_cons, List.all_nil, Bool.and_true, Bool.and_self, Slot.free, Nat.zero_sub, Nat.sub_zero, Nat.sub_self, Nat.reduceEqDiff, id_eq, decide_true, decide_false, eq_self]
      rw [hz1]
      refine ⟨okSort_of hpe (by decide) hpl _ (fun _ _ => ⟨trivial, trivial⟩) (sortable_tup fun _ _ => ⟨_, _, rfl⟩), ?_⟩
      have hzl : zs.length ≤ 512 := by rw [hz2.length_eq]; simpa using hsl
      refine lcR_mapE (fun s => s = [.v (.fz (.tup (ns.map .int))), .v (.fz (.lst ((subsF ns).map tupI))), a, .un, .un]) (fun y => tupI y.2) (by unfold sizeLine; omega) rfl ?_ ?_
      · rintro ⟨z, y⟩ hy s rfl R hR
        unfold prE
        simp -dsimp only [↓s_var, ↓s_c, ↓s_op, ↓s_test, ↓s_truth, ↓s_chain, ↓s_and, ↓s_or, ↓s_not, ↓s_andV, ↓s_orV, ↓s_notV, ↓s_if, ↓s_un, ↓s_nil, ↓s_cons, ↓s_cb, ↓s_call, ↓s_tup, ↓s_lst, ↓s_nopart, ↓s_part, ↓s_sl, ↓s_app, ↓s_items, ↓s_rng1, ↓s_rng2, ↓s_rng3, ↓s_next, ↓s_seq, ↓s_break, ↓s_cont, ↓s_drop, ↓s_ret, ↓s_retN, ↓s_ifS, ↓s_asg, ↓s_gNm, ↓s_gTup, ↓s_gNil, ↓s_gCons, ↓s_aug, ↓s_par, ↓s_for, ↓s_while, ↓s_lc, ↓s_lc2, ↓s_yes, ↓s_tvs0, ↓s_tvs1, ↓s_tvV, ↓s_tvS, ↓s_rvV, ↓s_rvS, ↓s_enum, ↓s_zip, ↓s_callIO, ↓fin_t, pins_nil, pins_p, pins_v, pins_un, lent1, slotL_s, ↓putB_1, ↓s_setI, ↓s_dput, ↓s_daug, ↓s_dnew, ↓s_disp, ↓s_flat0, ↓s_flat1, ↓s_never, ↓s_raise, ↓s_neverE, mkD, D.key, Option.map_some, dgetM, ↓br_t, ↓br_f, ↓s_fin0, ↓s_ref, ↓s_tupRg, ↓s_lstRg, ↓s_rg1, ↓s_rg2, hide, hideS, s_resV, s_resS, s_resL0, s_resL1, s_slotM, s_setM, s_frz, s_frzL, wD_some, got_v, got_p, ↓gset_un, ↓gset_v, vslot_v, fslot_v, asB_b, asI_i, asT_t, asL_l, hasL_l, one_1, two_2, int1_1, int2_2, int3_3, ix0, ix1, Slot.fr?, Slot.m?, Slot.put, opz_f1, o_iop, b_lt, o_addI, o_addS, o_addT, o_addL, o_mulI, o_mulT, o_mulL, o_ixL, o_ixT, o_ixW, o_ixC, o_ixS, o_slL, o_slT, o_slS, o_lenL, o_lenT, o_lenW, o_lenC, o_lenD, o_lenS, o_abs, o_intI, o_intB, o_str, o_list, o_tupL, o_tupT, o_isN, o_isNotN, o_isTy, o_neg, t_non, t_bl, t_int, t_str, t_lst, t_tup, t_wtu, t_dic, i_lst, i_tup, i_wtu, i_scr, i_str, q_lst, q_scr, q_tup, q_wtu, o_sort, o_inL, o_inT, o_eqI, o_neI, o_all, o_any, o_sum, o_max2, o_min2, o_eqB, o_neB, o_ixD, o_ixDi, p_str, p_int, s_frzD, hasD_md, small_md, D.seqs, D.tyN, List.getElem?_cons_zero, List.getElem?_cons_succ, List.set_cons_zero, List.set_cons_succ, List.map_cons, List.map_nil, Option.bind_some, Option.map_some, true_and, and_true, and_assoc, startD, Bool.not_true, Bool.not_false, List.length_cons, List.length_nil, List.nil_append, List.cons_append, List.append_nil, List.replicate, Nat.reduceSub, Nat.reduceAdd, Nat.reduceLeDiff, wipeD, unw, freeAt, Option.getD_some, List.all_cons, List.all_nil, Bool.and_true, Bool.and_self, Slot.free, Nat.zero_sub, Nat.sub_zero, Nat.sub_self, Nat.reduceEqDiff, id_eq, decide_true, decide_false, eq_self]
        exact hR _ _ rfl rfl
      · rintro s' rfl
        simp -dsimp only [↓s_var, ↓s_c, ↓s_op, ↓s_test, ↓s_truth, ↓s_chain, ↓s_and, ↓s_or, ↓s_not, ↓s_andV, ↓s_orV, ↓s_notV, ↓s_if, ↓s_un, ↓s_nil, ↓s_cons, ↓s_cb, ↓s_call, ↓s_tup, ↓s_lst, ↓s_nopart, ↓s_part, ↓s_sl, ↓s_app, ↓s_items, ↓s_rng1, ↓s_rng2, ↓s_rng3, ↓s_next, ↓s_seq, ↓s_break, ↓s_cont, ↓s_drop, ↓s_ret, ↓s_retN, ↓s_ifS, ↓s_asg, ↓s_gNm, ↓s_gTup, ↓s_gNil, ↓s_gCons, ↓s_aug, ↓s_par, ↓s_for, ↓s_while, ↓s_lc, ↓s_lc2, ↓s_yes, ↓s_tvs0, ↓s_tvs1, ↓s_tvV, ↓s_tvS, ↓s_rvV, ↓s_rvS, ↓s_enum, ↓s_zip, ↓s_callIO, ↓fin_t, pins_nil, pins_p, pins_v, pins_un, lent1, slotL_s, ↓putB_1, ↓s_setI, ↓s_dput, ↓s_daug, ↓s_dnew, ↓s_disp, ↓s_flat0, ↓s_flat1, ↓s_never, ↓s_raise, ↓s_neverE, mkD, D.key, Option.map_some, dgetM, ↓br_t, ↓br_f, ↓s_fin0, ↓s_ref, ↓s_tupRg, ↓s_lstRg, ↓s_rg1, ↓s_rg2, hide, hideS, s_resV, s_resS, s_resL0, s_resL1, s_slotM, s_setM, s_frz, s_frzL, wD_some, got_v, got_p, ↓gset_un, ↓gset_v, vslot_v, fslot_v, asB_b, asI_i, asT_t, asL_l, hasL_l, one_1, two_2, int1_1, int2_2, int3_3, ix0, ix1, Slot.fr?, Slot.m?, Slot.put, opz_f1, o_iop, b_lt, o_addI, o_addS, o_addT, o_addL, o_mulI, o_mulT, o_mulL, o_ixL, o_ixT, o_ixW, o_ixC, o_ixS, o_slL, o_slT, o_slS, o_lenL, o_lenT, o_lenW, o_lenC, o_lenD, o_lenS, o_abs, o_intI, o_intB, o_str, o_list, o_tupL, o_tupT, o_isN, o_isNotN, o_isTy, o_neg, t_non, t_bl, t_int, t_str, t_lst, t_tup, t_wtu, t_dic, i_lst, i_tup, i_wtu, i_scr, i_str, q_lst, q_scr, q_tup, q_wtu, o_sort, o_inL, o_inT, o_eqI, o_neI, o_all, o_any, o_sum, o_max2, o_min2, o_eqB, o_neB, o_ixD, o_ixDi, p_str, p_int, s_frzD, hasD_md, small_md, D.seqs, D.tyN, List.getElem?_cons_zero, List.getElem?_cons_succ, List.set_cons_zero, List.set_cons_succ, List.map_cons, List.map_nil, Option.bind_some, Option.map_some, true_and, and_true, and_assoc, startD, Bool.not_true, Bool.not_false, List.length_cons, List.length_nil, List.nil_append, List.cons_append, List.append_nil, List.replicate, Nat.reduceSub, Nat.reduceAdd, Nat.reduceLeDiff, wipeD, unw, freeAt, Option.getD_some, List.all_cons, List.all_nil, Bool.and_true, Bool.and_self, Slot.free, Nat.zero_sub, Nat.sub_zero, Nat.sub_self, Nat.reduceEqDiff, id_eq, decide_true, decide_false, eq_self]
        have := q (zs.map (·.2)) ?_ ?_
        · rw [List.map_map] at this
          exact this
        · have := hz2.map (·.2)
          simpa [Function.comp_def] using this
        · rw [List.pairwise_map]
          refine List.Pairwise.imp_of_mem (fun {a b} ha hb hh => ?_) hz3
          obtain ⟨y, _, rfl⟩ := List.mem_map.mp (hz2.mem_iff.mp ha)
          obtain ⟨y', _, rfl⟩ := List.mem_map.mp (hz2.mem_iff.mp hb)
          simp only [DL.ltP, decide_eq_true_eq] at hh
          unfold leR
          by_cases e : y'.length = y.length
          · rw [if_pos (by omega)] at hh
            simp at hh
            simp [e]
            exact List.not_lt.mp (by simpa using hh)
          · rw [if_neg (by omega)] at hh
            simp at hh
            have : y.length < y'.length := by omega
            simp [this]
end
end K73

namespace K73
open PySem PySem.Spec L2 DL
section
variable {P : Program} {w : World} {K : PySem.W.Frag} {mg : Str → Option Value} {base : Heap} {TB : List (Addr × Str)} {C_InvalidPlan : Addr}
theorem cut_to8 {α : Type} {xs : List α} : cutG xs none (some 8) = xs.take 8 := cut_to (k := 8)
def badL : List (Int × List Int) := [(0, [0]), (61, [0]), (5, []), (5, [1, 0]), (5, [5]), (5, [-1]), (9, isq 0 9)]
theorem badL_bad : ∀ x ∈ badL, ¬ okR x.1 x.2 ∧ x.2.length ≤ 1000 := by decide
def c_law : CT
  | [.fz (.scr ns)], R, _ => ns.length ≤ 63 ∧ R (.fz (.bl true)) []
  | _, _, _ => False
theorem sc__law_refused : FnScope N__law_refused ["call"] (defScope s__law_refused) := ⟨rfl, rfl, rfl, by decide +kernel, rfl, by decide +kernel, by decide +kernel⟩
theorem sc_law : FnScope N_law ["script"] (defScope s_law) := ⟨rfl, rfl, rfl, by decide +kernel, rfl, by decide +kernel, by decide +kernel⟩
theorem ok_law (T : Txt K mg C_InvalidPlan) (G__law_longest : FnAt P w K mg base TB 2 "_law_longest" ["period", "reads"] false c__law_longest) (G__law_next : FnAt P w K mg base TB 1 "_law_next" ["period", "reads", "moment"] false c__law_next) (G__law_subsets : FnAt P w K mg base TB 1 "_law_subsets" ["things"] false c__law_subsets) (G__law_take : FnAt P w K mg base TB 1 "_law_take" ["tape", "many"] true c__law_take) (G__law_tape : FnAt P w K mg base TB 1 "_law_tape" ["script"] false c__law_tape) (G_both_spoilt : FnAt P w K mg base TB 3 "both_spoilt" ["period", "first", "second"] false (c_both_spoilt C_InvalidPlan)) (G_least_reads : FnAt P w K mg base TB 1 "least_reads" ["period", "most"] false (c_least_reads C_InvalidPlan)) (G_longest_unseen : FnAt P w K mg base TB 3 "longest_unseen" ["period", "reads"] false (c_longest_unseen C_InvalidPlan)) (G_next_read : FnAt P w K mg base TB 2 "next_read" ["period", "reads", "moment"] false (c_next_read C_InvalidPlan)) (G_staggered : FnAt P w K mg base TB 1 "staggered" ["period", "disks"] false (c_staggered C_InvalidPlan)) (G_takes_reads : FnAt P w K mg base TB 4 "takes_reads" ["period", "reads", "most"] false (c_takes_reads C_InvalidPlan)) (F__law_refused : TopFn K mg "_law_refused" s__law_refused ["call"]) {cL PT : Addr} (TBc : LamX.TabB base mg cL PT) (hmT : (PT, (PyProof.Rows.envOfC "law" (defScope s_law) 0 0 .none).qual ++ "<lambda>") ∈ TB) (hu : ∀ q ∈ TB, q.1 = PT → q.2 = (PyProof.Rows.envOfC "law" (defScope s_law) 0 0 .none).qual ++ "<lambda>") (F : TopFnC K mg "law" s_law ["script"] cL) : FnAt P w K mg base TB 6 "law" ["script"] false c_law := by
  have nd := sc_law.nd
  refine fnAtC F sc_law (fun ms R X h => by unfold c_law at h; split at h <;> first | rfl | exact h.elim) (fun h => by cases h) fun f A outer s H E x0 Xd hr => ?_
  refine ⟨_, _, (dss_cons (ds_set (i := 1) nd rfl (by first | exact Or.inl rfl | exact Or.inr rfl) (de_callN G__law_tape (hr.mono (by decide)) rfl rfl takesD (da_cons (dv 0) da_nil)))
      (dss_cons (ds_set (i := 2) nd rfl (by first | exact Or.inl rfl | exact Or.inr rfl) (de_op (op_addA rfl) od_add de_int (de_callION G__law_take (hr.mono (by decide)) rfl rfl takesD (da_cons (dv 1) (da_cons de_int da_nil)))))
      (dss_cons (ds_set (i := 3) nd rfl (by first | exact Or.inl rfl | exact Or.inr rfl) (de_lst da_nil))
      (dss_cons (ds_for passD rfl (di_rng1 (by rfl) T.n_range (da_cons de_int da_nil)) (dg_name (i := 4) nd rfl (by first | exact Or.inl rfl | exact Or.inr rfl))
      (dss_cons (ds_set (i := 17) nd rfl (by first | exact Or.inl rfl | exact Or.inr rfl) (de_sl rfl (de_lc (own := [("moment", 18)]) rfl nd (di_rng1 (by rfl) T.n_range (da_cons (dv 2) da_nil)) (blkOk_by (N := N_law) (sc := defScope s_law) (by decide +kernel)) (GOnly.name (by decide)) GMono.name (fun _ _ _ _ _ => (dg_name (i := 18) nd rfl (by first | exact Or.inl rfl | exact Or.inr rfl))) (fun _ _ _ _ _ => (dts_one (dt_cmp (op_eqA rfl (hu64 hr)) od_eq (de_callION G__law_take (hr.mono (by decide)) rfl rfl takes_blk (da_cons (dv 1) (da_cons de_int da_nil))) de_int (nomark _)))) (fun _ _ _ _ _ => (dv 18))) do_none (do_some de_int)))
      (dss_one (ds_expr (de_append (i := 3) rfl (da_cons (de_ife (dt_cmp op_gt od_gt (de_callB (call_lenA rfl) cd_len (by rfl) T.n_len bo_len (da_cons (dv 17) da_nil)) de_int (nomark _)) (de_callTy (call_tupleA rfl) cd_tuple (by rfl) T.n_tuple bo_tuple (da_cons (dv 17) da_nil)) (de_tup (da_cons (de_callION G__law_take (hr.mono (by decide)) rfl rfl takesD (da_cons (dv 1) (da_cons (dv 2) da_nil))) da_nil))) da_nil))))))
      (dss_cons (ds_for passD rfl (di_rng1 (by rfl) T.n_range (da_cons de_int da_nil)) (dg_name (i := 4) nd rfl (by first | exact Or.inl rfl | exact Or.inr rfl))
      (dss_cons (ds_set (i := 18) nd rfl (by first | exact Or.inl rfl | exact Or.inr rfl) (de_op op_sub od_sub (de_callION G__law_take (hr.mono (by decide)) rfl rfl takesD (da_cons (dv 1) (da_cons de_int da_nil))) de_int))
      (dss_one (ds_if (dt_cmp (op_neA rfl (hu64 hr)) od_ne (de_callN G_next_read (hr.mono (by decide)) rfl rfl takesD (da_cons (dv 2) (da_cons (de_ix rfl (hu1 hr) (dv 3) de_int) (da_cons (dv 18) da_nil)))) (de_callN G__law_next (hr.mono (by decide)) rfl rfl takesD (da_cons (dv 2) (da_cons (de_ix rfl (hu1 hr) (dv 3) de_int) (da_cons (dv 18) da_nil)))) (nomark _))
      (dss_one (ds_ret de_bl))
      dss_nil))))
      (dss_cons (ds_set (i := 5) nd rfl (by first | exact Or.inl rfl | exact Or.inr rfl) (de_callN G__law_longest (hr.mono (by decide)) rfl rfl takesD (da_cons (dv 2) (da_cons (de_ix rfl (hu1 hr) (dv 3) de_int) da_nil))))
      (dss_cons (ds_set (i := 6) nd rfl (by first | exact Or.inl rfl | exact Or.inr rfl) (de_callION G__law_take (hr.mono (by decide)) rfl rfl takesD (da_cons (dv 1) (da_cons (de_op (op_addA rfl) od_add (dv 2) de_int) da_nil))))
      (dss_cons (ds_if (DW.pt (dw_or (dt_cmp (op_neA rfl (hu64 hr)) od_ne (de_callN G_longest_unseen (hr.mono (by decide)) rfl rfl takesD (da_cons (dv 2) (da_cons (de_ix rfl (hu1 hr) (dv 3) de_int) da_nil))) (dv 5) (nomark _)) (dw_or1 (dt_cmp (op_neA rfl (hu64 hr)) od_ne (de_callN G_takes_reads (hr.mono (by decide)) rfl rfl takesD (da_cons (dv 2) (da_cons (de_ix rfl (hu1 hr) (dv 3) de_int) (da_cons (dv 6) da_nil)))) (de_cmp op_le od_le (dv 5) (dv 6) (nomark _)) (nomark _)))))
      (dss_one (ds_ret de_bl))
      dss_nil)
      (dss_cons (ds_set (i := 7) nd rfl (by first | exact Or.inl rfl | exact Or.inr rfl) (de_tup (da_cons de_int (da_cons de_int (da_cons de_int da_nil)))))
      (dss_cons (ds_for passD rfl (di_rng1 (by rfl) T.n_range (da_cons (dv 2) da_nil)) (dg_name (i := 8) nd rfl (by first | exact Or.inl rfl | exact Or.inr rfl))
      (dss_one (ds_for passD rfl (di_rng2 (by rfl) T.n_range (da_cons (de_op (op_addA rfl) od_add (de_op op_sub od_sub (dv 8) (dv 2)) de_int) (da_cons (de_op (op_addA rfl) od_add (dv 8) (dv 2)) da_nil))) (dg_name (i := 19) nd rfl (by first | exact Or.inl rfl | exact Or.inr rfl))
      (dss_cons (ds_set (i := 20) nd rfl (by first | exact Or.inl rfl | exact Or.inr rfl) (de_op op_sub od_sub (de_callB (call_minA rfl rfl) cd_min (by rfl) T.n_min bo_min (da_cons (de_callN G__law_next (hr.mono (by decide)) rfl rfl takesD (da_cons (dv 2) (da_cons (de_ix rfl (hu1 hr) (dv 3) de_int) (da_cons (dv 8) da_nil)))) (da_cons (de_callN G__law_next (hr.mono (by decide)) rfl rfl takesD (da_cons (dv 2) (da_cons (de_ix rfl (hu1 hr) (dv 3) de_int) (da_cons (dv 19) da_nil)))) da_nil))) (de_callB (call_maxA rfl rfl) cd_max (by rfl) T.n_max bo_max (da_cons (dv 8) (da_cons (dv 19) da_nil)))))
      (dss_one (ds_if (dt_cmp op_gt od_gt (dv 20) (de_ix rfl (hu1 hr) (dv 7) de_int) (nomark _))
      (dss_one (ds_set (i := 7) nd rfl (by first | exact Or.inl rfl | exact Or.inr rfl) (de_tup (da_cons (dv 20) (da_cons (dv 8) (da_cons (dv 19) da_nil))))))
      dss_nil))))))
      (dss_cons (ds_if (dt_cmp (op_neA rfl (hu64 hr)) od_ne (de_callN G_both_spoilt (hr.mono (by decide)) rfl rfl takesD (da_cons (dv 2) (da_cons (de_ix rfl (hu1 hr) (dv 3) de_int) (da_cons (de_ix rfl (hu1 hr) (dv 3) de_int) da_nil)))) (dv 7) (nomark _))
      (dss_one (ds_ret de_bl))
      dss_nil)
      (dss_cons (ds_set (i := 9) nd rfl (by first | exact Or.inl rfl | exact Or.inr rfl) (de_ife (dt_cmp op_le od_le (dv 2) de_int (nomark _)) (de_callN G__law_subsets (hr.mono (by decide)) rfl rfl takesD (da_cons (de_tupRg rfl (by rfl) T.n_tuple (drg_1 (by rfl) T.n_range (dv 2))) da_nil)) (de_lst da_nil)))
      (dss_cons (ds_setLc (i := 10) (own := [("row", 21)]) rfl nd rfl rfl (sw_true rfl rfl rfl (by decide +kernel)) (di_any rfl (dv 9)) (blkOk_by (N := N_law) (sc := defScope s_law) (by decide +kernel)) (GOnly.name (by decide)) GMono.name (fun _ _ _ _ _ => (dg_name (i := 21) nd rfl (by first | exact Or.inl rfl | exact Or.inr rfl))) (fun _ _ _ _ _ => (dts_one (DW.pt (dw_and (dt_cmp op_gt od_gt (de_callB (call_lenA rfl) cd_len (by rfl) T.n_len bo_len (da_cons (dv 21) da_nil)) de_int (nomark _)) (dw_and1 (dt_cmp op_le od_le (de_callN G__law_longest (hr.mono (by decide)) rfl rfl takes_blk (da_cons (dv 2) (da_cons (dv 21) da_nil))) (dv 6) (nomark _))))))) (fun _ _ _ _ _ => (dv 21)))
      (dss_cons (ds_if (DW.pt (dw_and (dt_cmp op_gt od_gt (de_callB (call_lenA rfl) cd_len (by rfl) T.n_len bo_len (da_cons (dv 10) da_nil)) de_int (nomark _)) (dw_and1 (dt_cmp op_gt od_gt (de_callB (call_lenA rfl) cd_len (by rfl) T.n_len bo_len (da_cons (de_ix rfl (hu1 hr) (dv 10) de_int) da_nil)) de_int (nomark _)))))
      (dss_one (ds_if (dt_not (dt_truth (de_lamcallF (k := 1) F__law_refused sc__law_refused T.x_InvalidPlan.mgc TBc hmT hu (hr.mono (by decide)) (LamX.lamS_by (sc := defScope s_law) (by decide +kernel)) (fun A outer s H E D f c' hr => ⟨_, _, (de_callN G_least_reads hr rfl rfl takesLam (da_cons (dv 2) (da_cons (dv 6) da_nil))), (by first | (dsimp only; done) | rfl | (dsimp only; rfl)), (by first | (dsimp only; done) | rfl | (dsimp only; rfl))⟩) rfl rfl (Or.inl rfl) rfl (fun _ => rfl) rfl rfl rfl)))
      (dss_one (ds_ret de_bl))
      dss_nil))
      (dss_one (ds_if (DW.pt (dw_and (dt_cmp op_gt od_gt (de_callB (call_lenA rfl) cd_len (by rfl) T.n_len bo_len (da_cons (dv 10) da_nil)) de_int (nomark _)) (dw_and1 (dt_cmp (op_neA rfl (hu64 hr)) od_ne (de_callN G_least_reads (hr.mono (by decide)) rfl rfl takesD (da_cons (dv 2) (da_cons (dv 6) da_nil))) (de_ix rfl (hu1 hr) (dv 10) de_int) (nomark _)))))
      (dss_one (ds_ret de_bl))
      dss_nil)))
      (dss_cons (ds_set (i := 11) nd rfl (by first | exact Or.inl rfl | exact Or.inr rfl) (de_op (op_addA rfl) od_add de_int (de_callION G__law_take (hr.mono (by decide)) rfl rfl takesD (da_cons (dv 1) (da_cons de_int da_nil)))))
      (dss_cons (ds_set (i := 12) nd rfl (by first | exact Or.inl rfl | exact Or.inr rfl) (de_callN G_least_reads (hr.mono (by decide)) rfl rfl takesD (da_cons (dv 11) (da_cons (de_op (op_addA rfl) od_add (de_op op_fdivA od_fdiv (dv 11) de_int) de_int) da_nil))))
      (dss_cons (ds_if (DW.pt (dw_or (dt_cmp op_gt od_gt (de_callN G__law_longest (hr.mono (by decide)) rfl rfl takesD (da_cons (dv 11) (da_cons (dv 12) da_nil))) (de_op (op_addA rfl) od_add (de_op op_fdivA od_fdiv (dv 11) de_int) de_int) (nomark _)) (dw_or1 (dt_cmp (op_neA rfl (hu64 hr)) od_ne (de_ix rfl (hu1 hr) (dv 12) de_int) de_int (nomark _)))))
      (dss_one (ds_ret de_bl))
      dss_nil)
      (dss_cons (ds_set (i := 13) nd rfl (by first | exact Or.inl rfl | exact Or.inr rfl) (de_op (op_addA rfl) od_add de_int (de_callION G__law_take (hr.mono (by decide)) rfl rfl takesD (da_cons (dv 1) (da_cons (dv 2) da_nil)))))
      (dss_cons (ds_set (i := 14) nd rfl (by first | exact Or.inl rfl | exact Or.inr rfl) (de_callN G_staggered (hr.mono (by decide)) rfl rfl takesD (da_cons (dv 2) (da_cons (dv 13) da_nil))))
      (dss_cons (ds_setLc (i := 15) (own := [("k", 4)]) rfl nd rfl rfl (sw_true rfl rfl rfl (by decide +kernel)) (di_rng1 (by rfl) T.n_range (da_cons (dv 13) da_nil)) (blkOk_by (N := N_law) (sc := defScope s_law) (by decide +kernel)) (GOnly.name (by decide)) GMono.name (fun _ _ _ _ _ => (dg_name (i := 4) nd rfl (by first | exact Or.inl rfl | exact Or.inr rfl))) (fun _ _ _ _ _ => dts_nil) (fun _ _ _ _ _ => (de_op op_sub od_sub (de_ix rfl (hu1 hr) (de_op (op_addA rfl) od_add (de_callTy (call_listA rfl) cd_list (by rfl) T.n_list bo_list (da_cons (dv 14) da_nil)) (de_lst (da_cons (dv 2) da_nil))) (de_op (op_addA rfl) od_add (dv 4) de_int)) (de_ix rfl (hu1 hr) (dv 14) (dv 4)))))
      (dss_cons (ds_if (DW.pt (dw_or (dt_cmp (op_neA rfl (hu64 hr)) od_ne (de_callB (call_lenA rfl) cd_len (by rfl) T.n_len bo_len (da_cons (dv 14) da_nil)) (dv 13) (nomark _)) (dw_or (dt_cmp (op_neA rfl (hu64 hr)) od_ne (de_ix rfl (hu1 hr) (dv 14) de_int) de_int (nomark _)) (dw_or1 (dt_cmp op_gt od_gt (de_op op_sub od_sub (de_callB (call_maxA rfl rfl) cd_max (by rfl) T.n_max bo_max (da_cons (dv 15) da_nil)) (de_callB (call_minA rfl rfl) cd_min (by rfl) T.n_min bo_min (da_cons (dv 15) da_nil))) de_int (nomark _))))))
      (dss_one (ds_ret de_bl))
      dss_nil)
      (dss_cons (ds_for passD rfl (di_any rfl (de_tup (da_cons (de_tup (da_cons de_int (da_cons (de_tup (da_cons de_int da_nil)) da_nil))) (da_cons (de_tup (da_cons de_int (da_cons (de_tup (da_cons de_int da_nil)) da_nil))) (da_cons (de_tup (da_cons de_int (da_cons (de_tup da_nil) da_nil))) (da_cons (de_tup (da_cons de_int (da_cons (de_tup (da_cons de_int (da_cons de_int da_nil))) da_nil))) (da_cons (de_tup (da_cons de_int (da_cons (de_tup (da_cons de_int da_nil)) da_nil))) (da_cons (de_tup (da_cons de_int (da_cons (de_tup (da_cons (de_neg de_int) da_nil)) da_nil))) (da_cons (de_tup (da_cons de_int (da_cons (de_tupRg rfl (by rfl) T.n_tuple (drg_1 (by rfl) T.n_range de_int)) da_nil))) da_nil))))))))) (dg_name (i := 16) nd rfl (by first | exact Or.inl rfl | exact Or.inr rfl))
      (dss_one (ds_if (dt_not (dt_truth (de_lamcallF (k := 3) F__law_refused sc__law_refused T.x_InvalidPlan.mgc TBc hmT hu hr (LamX.lamS_by (sc := defScope s_law) (by decide +kernel)) (fun A outer s H E D f c' hr => ⟨_, _, (de_callN G_longest_unseen hr rfl rfl takesLam (da_cons (de_ix rfl (hu1 hr) (dv 16) de_int) (da_cons (de_ix rfl (hu1 hr) (dv 16) de_int) da_nil))), (by first | (dsimp only; done) | rfl | (dsimp only; rfl)), (by first | (dsimp only; done) | rfl | (dsimp only; rfl))⟩) rfl rfl (Or.inl rfl) rfl (fun _ => rfl) rfl rfl rfl)))
      (dss_one (ds_ret de_bl))
      dss_nil)))
      (dss_cons (ds_if (dt_not (dt_truth (de_lamcallF (k := 1) F__law_refused sc__law_refused T.x_InvalidPlan.mgc TBc hmT hu (hr.mono (by decide)) (LamX.lamS_by (sc := defScope s_law) (by decide +kernel)) (fun A outer s H E D f c' hr => ⟨_, _, (de_callN G_least_reads hr rfl rfl takesLam (da_cons de_int (da_cons de_int da_nil))), (by first | (dsimp only; done) | rfl | (dsimp only; rfl)), (by first | (dsimp only; done) | rfl | (dsimp only; rfl))⟩) rfl rfl (Or.inl rfl) rfl (fun _ => rfl) rfl rfl rfl)))
      (dss_one (ds_ret de_bl))
      dss_nil)
      (dss_cons (ds_if (dt_not (dt_truth (de_lamcallF (k := 1) F__law_refused sc__law_refused T.x_InvalidPlan.mgc TBc hmT hu (hr.mono (by decide)) (LamX.lamS_by (sc := defScope s_law) (by decide +kernel)) (fun A outer s H E D f c' hr => ⟨_, _, (de_callN G_least_reads hr rfl rfl takesLam (da_cons de_int (da_cons (de_neg de_int) da_nil))), (by first | (dsimp only; done) | rfl | (dsimp only; rfl)), (by first | (dsimp only; done) | rfl | (dsimp only; rfl))⟩) rfl rfl (Or.inl rfl) rfl (fun _ => rfl) rfl rfl rfl)))
      (dss_one (ds_ret de_bl))
      dss_nil)
      (dss_cons (ds_if (dt_not (dt_truth (de_lamcallF (k := 1) F__law_refused sc__law_refused T.x_InvalidPlan.mgc TBc hmT hu (hr.mono (by decide)) (LamX.lamS_by (sc := defScope s_law) (by decide +kernel)) (fun A outer s H E D f c' hr => ⟨_, _, (de_callN G_staggered hr rfl rfl takesLam (da_cons de_int (da_cons de_int da_nil))), (by first | (dsimp only; done) | rfl | (dsimp only; rfl)), (by first | (dsimp only; done) | rfl | (dsimp only; rfl))⟩) rfl rfl (Or.inl rfl) rfl (fun _ => rfl) rfl rfl rfl)))
      (dss_one (ds_ret de_bl))
      dss_nil)
      (dss_one (ds_ret (de_lamcallF (k := 1) F__law_refused sc__law_refused T.x_InvalidPlan.mgc TBc hmT hu (hr.mono (by decide)) (LamX.lamS_by (sc := defScope s_law) (by decide +kernel)) (fun A outer s H E D f c' hr => ⟨_, _, (de_callN G_staggered hr rfl rfl takesLam (da_cons de_int (da_cons de_int da_nil))), (by first | (dsimp only; done) | rfl | (dsimp only; rfl)), (by first | (dsimp only; done) | rfl | (dsimp only; rfl))⟩) rfl rfl (Or.inl rfl) rfl (fun _ => rfl) rfl rfl rfl)))))))))))))))))))))))))))), ?_⟩
  intro ms Rd h
  unfold c_law at h
  split at h <;> first | exact (show False from h).elim | skip
  rename_i ns
  obtain ⟨h63, q⟩ := h
  simp -dsimp only [↓s_var, ↓s_c, ↓s_op, ↓s_test, ↓s_truth, ↓s_chain, ↓s_and, ↓s_or, ↓s_not, ↓s_andV, ↓s_orV, ↓s_notV, ↓s_if, ↓s_un, ↓s_nil, ↓s_cons, ↓s_cb, ↓s_call, ↓s_tup, ↓s_lst, ↓s_nopart, ↓s_part, ↓s_sl, ↓s_app, ↓s_items, ↓s_rng1, ↓s_rng2, ↓s_rng3, ↓s_next, ↓s_seq, ↓s_break, ↓s_cont, ↓s_drop, ↓s_ret, ↓s_retN, ↓s_ifS, ↓s_asg, ↓s_gNm, ↓s_gTup, ↓s_gNil, ↓s_gCons, ↓s_aug, ↓s_par, ↓s_for, ↓s_while, ↓s_lc, ↓s_lc2, ↓s_yes, ↓s_tvs0, ↓s_tvs1, ↓s_tvV, ↓s_tvS, ↓s_rvV, ↓s_rvS, ↓s_enum, ↓s_zip, ↓s_callIO, ↓fin_t, pins_nil, pins_p, pins_v, pins_un, lent1, slotL_s, ↓putB_1, ↓s_setI, ↓s_dput, ↓s_daug, ↓s_dnew, ↓s_disp, ↓s_flat0, ↓s_flat1, ↓s_never, ↓s_raise, ↓s_neverE, mkD, D.key, Option.map_some, dgetM, ↓br_t, ↓br_f, ↓s_fin0, ↓s_ref, ↓s_tupRg, ↓s_lstRg, ↓s_rg1, ↓s_rg2, hide, hideS, s_resV, s_resS, s_resL0, s_resL1, s_slotM, s_setM, s_frz, s_frzL, wD_some, got_v, got_p, ↓gset_un, ↓gset_v, vslot_v, fslot_v, asB_b, asI_i, asT_t, asL_l, hasL_l, one_1, two_2, int1_1, int2_2, int3_3, ix0, ix1, Slot.fr?, Slot.m?, Slot.put, opz_f1, o_iop, b_lt, o_addI, o_addS, o_addT, o_addL, o_mulI, o_mulT, o_mulL, o_ixL, o_ixT, o_ixW, o_ixC, o_ixS, o_slL, o_slT, o_slS, o_lenL, o_lenT, o_lenW, o_lenC, o_lenD, o_lenS, o_abs, o_intI, o_intB, o_str, o_list, o_tupL, o_tupT, o_isN, o_isNotN, o_isTy, o_neg, t_non, t_bl, t_int, t_str, t_lst, t_tup, t_wtu, t_dic, i_lst, i_tup, i_wtu, i_scr, i_str, q_lst, q_scr, q_tup, q_wtu, o_sort, o_inL, o_inT, o_eqI, o_neI, o_all, o_any, o_sum, o_max2, o_min2, o_eqB, o_neB, o_ixD, o_ixDi, p_str, p_int, s_frzD, hasD_md, small_md, D.seqs, D.tyN, List.getElem?_cons_zero, List.getElem?_cons_succ, List.set_cons_zero, List.set_cons_succ, List.map_cons, List.map_nil, Option.bind_some, Option.map_some, true_and, and_true, and_assoc, startD, Bool.not_true, Bool.not_false, List.length_cons, List.length_nil, List.nil_append, List.cons_append, List.append_nil, List.replicate, Nat.reduceSub, Nat.reduceAdd, Nat.reduceLeDiff, wipeD, unw, freeAt, Option.getD_some, List.all_cons, List.all_nil, Bool.and_true, Bool.and_self, Slot.free, Nat.zero_sub, Nat.sub_zero, Nat.sub_self, Nat.reduceEqDiff, id_eq, decide_true, decide_false, eq_self, c__law_longest, c__law_next, c__law_subsets, c__law_take, c__law_tape, c_both_spoilt, c_least_reads, c_longest_unseen, c_next_read, c_staggered, c_takes_reads, T.x_InvalidPlan.ex]
  refine ⟨h63, fun tp hT => ?_⟩
  try simp -dsimp only [↓s_var, ↓s_c, ↓s_op, ↓s_test, ↓s_truth, ↓s_chain, ↓s_and, ↓s_or, ↓s_not, ↓s_andV, ↓s_orV, ↓s_notV, ↓s_if, ↓s_un, ↓s_nil, ↓s_cons, ↓s_cb, ↓s_call, ↓s_tup, ↓s_lst, ↓s_nopart, ↓s_part, ↓s_sl, ↓s_app, ↓s_items, ↓s_rng1, ↓s_rng2, ↓s_rng3, ↓s_next, ↓s_seq, ↓s_break, ↓s_cont, ↓s_drop, ↓s_ret, ↓s_retN, ↓s_ifS, ↓s_asg, ↓s_gNm, ↓s_gTup, ↓s_gNil, ↓s_gCons, ↓s_aug, ↓s_par, ↓s_for, ↓s_while, ↓s_lc, ↓s_lc2, ↓s_yes, ↓s_tvs0, ↓s_tvs1, ↓s_tvV, ↓s_tvS, ↓s_rvV, ↓s_rvS, ↓s_enum, ↓s_zip, ↓s_callIO, ↓fin_t, pins_nil, pins_p, pins_v, pins_un, lent1, slotL_s, ↓putB_1, ↓s_setI, ↓s_dput, ↓s_daug, ↓s_dnew, ↓s_disp, ↓s_flat0, ↓s_flat1, ↓s_never, ↓s_raise, ↓s_neverE, mkD, D.key, Option.map_some, dgetM, ↓br_t, ↓br_f, ↓s_fin0, ↓s_ref, ↓s_tupRg, ↓s_lstRg, ↓s_rg1, ↓s_rg2, hide, hideS, s_resV, s_resS, s_resL0, s_resL1, s_slotM, s_setM, s_frz, s_frzL, wD_some, got_v, got_p, ↓gset_un, ↓gset_v, vslot_v, fslot_v, asB_b, asI_i, asT_t, asL_l, hasL_l, one_1, two_2, int1_1, int2_2, int3_3, ix0, ix1, Slot.fr?, Slot.m?, Slot.put, opz_f1, o_iop, b_lt, o_addI, o_addS, o_addT, o_addL, o_mulI, o_mulT, o_mulL, o_ixL, o_ixT, o_ixW, o_ixC, o_ixS, o_slL, o_slT, o_slS, o_lenL, o_lenT, o_lenW, o_lenC, o_lenD, o_lenS, o_abs, o_intI, o_intB, o_str, o_list, o_tupL, o_tupT, o_isN, o_isNotN, o_isTy, o_neg, t_non, t_bl, t_int, t_str, t_lst, t_tup, t_wtu, t_dic, i_lst, i_tup, i_wtu, i_scr, i_str, q_lst, q_scr, q_tup, q_wtu, o_sort, o_inL, o_inT, o_eqI, o_neI, o_all, o_any, o_sum, o_max2, o_min2, o_eqB, o_neB, o_ixD, o_ixDi, p_str, p_int, s_frzD, hasD_md, small_md, D.seqs, D.tyN, List.getElem?_cons_zero, List.getElem?_cons_succ, List.set_cons_zero, List.set_cons_succ, List.map_cons, List.map_nil, Option.bind_some, Option.map_some, true_and, and_true, and_assoc, startD, Bool.not_true, Bool.not_false, List.length_cons, List.length_nil, List.nil_append, List.cons_append, List.append_nil, List.replicate, Nat.reduceSub, Nat.reduceAdd, Nat.reduceLeDiff, wipeD, unw, freeAt, Option.getD_some, List.all_cons, List.all_nil, Bool.and_true, Bool.and_self, Slot.free, Nat.zero_sub, Nat.sub_zero, Nat.sub_self, Nat.reduceEqDiff, id_eq, decide_true, decide_false, eq_self, c__law_longest, c__law_next, c__law_subsets, c__law_take, c__law_tape, c_both_spoilt, c_least_reads, c_longest_unseen, c_next_read, c_staggered, c_takes_reads, T.x_InvalidPlan.ex]
  refine ⟨hT, by decide, by decide, fun v tp v0 v1 hT => ?_⟩
  obtain ⟨p, hp⟩ : ∃ p, p = 1 + v := ⟨_, rfl⟩
  have hp1 : 1 ≤ p ∧ p ≤ 14 := by omega
  rw [← hp]
  refine ⟨by decide, by decide, by decide, ?_⟩
  refine for_rng (fun i s => ∃ (tp : M) (L : List (List Int)) (a b : DL.Slot), s = [.v (.fz (.scr ns)), .v tp, .v (.fz (.int p)), .v (.ml (L.map tupI)), a, .un, .un, .un, .un, .un, .un, .un, .un, .un, .un, .un, .un, b, .un, .un, .un, .un] ∧ Tape tp ∧ L.length = i ∧ (∀ l ∈ L, okR p l) ∧ a.pinned = false ∧ b.pinned = false) ⟨_, [], _, _, rfl, hT, rfl, by simp, rfl, rfl⟩ ?_ ?_
  · rintro i s hi ⟨tp, L, a, b, rfl, hT, hL, hok, ha, hb⟩ N B R hN - -
    simp -dsimp only [↓s_var, ↓s_c, ↓s_op, ↓s_test, ↓s_truth, ↓s_chain, ↓s_and, ↓s_or, ↓s_not, ↓s_andV, ↓s_orV, ↓s_notV, ↓s_if, ↓s_un, ↓s_nil, ↓s_cons, ↓s_cb, ↓s_call, ↓s_tup, ↓s_lst, ↓s_nopart, ↓s_part, ↓s_sl, ↓s_app, ↓s_items, ↓s_rng1, ↓s_rng2, ↓s_rng3, ↓s_next, ↓s_seq, ↓s_break, ↓s_cont, ↓s_drop, ↓s_ret, ↓s_retN, ↓s_ifS, ↓s_asg, ↓s_gNm, ↓s_gTup, ↓s_gNil, ↓s_gCons, ↓s_aug, ↓s_par, ↓s_for, ↓s_while, ↓s_lc, ↓s_lc2, ↓s_yes, ↓s_tvs0, ↓s_tvs1, ↓s_tvV, ↓s_tvS, ↓s_rvV, ↓s_rvS, ↓s_enum, ↓s_zip, ↓s_callIO, ↓fin_t, pins_nil, pins_p, pins_v, pins_un, lent1, slotL_s, ↓putB_1, ↓s_setI, ↓s_dput, ↓s_daug, ↓s_dnew, ↓s_disp, ↓s_flat0, ↓s_flat1, ↓s_never, ↓s_raise, ↓s_neverE, mkD, D.key, Option.map_some, dgetM, ↓br_t, ↓br_f, ↓s_fin0, ↓s_ref, ↓s_tupRg, ↓s_lstRg, ↓s_rg1, ↓s_rg2, hide, hideS, s_resV, s_resS, s_resL0, s_resL1, s_slotM, s_setM, s_frz, s_frzL, wD_some, got_v, got_p, ↓gset_un, ↓gset_v, vslot_v, fslot_v, asB_b, asI_i, asT_t, asL_l, hasL_l, one_1, two_2, int1_1, int2_2, int3_3, ix0, ix1, Slot.fr?, Slot.m?, Slot.put, opz_f1, o_iop, b_lt, o_addI, o_addS, o_addT, o_addL, o_mulI, o_mulT, o_mulL, o_ixL, o_ixT, o_ixW, o_ixC, o_ixS, o_slL, o_slT, o_slS, o_lenL, o_lenT, o_lenW, o_lenC, o_lenD, o_lenS, o_abs, o_intI, o_intB, o_str, o_list, o_tupL, o_tupT, o_isN, o_isNotN, o_isTy, o_neg, t_non, t_bl, t_int, t_str, t_lst, t_tup, t_wtu, t_dic, i_lst, i_tup, i_wtu, i_scr, i_str, q_lst, q_scr, q_tup, q_wtu, o_sort, o_inL, o_inT, o_eqI, o_neI, o_all, o_any, o_sum, o_max2, o_min2, o_eqB, o_neB, o_ixD, o_ixDi, p_str, p_int, s_frzD, hasD_md, small_md, D.seqs, D.tyN, List.getElem?_cons_zero, List.getElem?_cons_succ, List.set_cons_zero, List.set_cons_succ, List.map_cons, List.map_nil, Option.bind_some, Option.map_some, true_and, and_true, and_assoc, startD, Bool.not_true, Bool.not_false, List.length_cons, List.length_nil, List.nil_append, List.cons_append, List.append_nil, List.replicate, Nat.reduceSub, Nat.reduceAdd, Nat.reduceLeDiff, wipeD, unw, freeAt, Option.getD_some, List.all_cons, List.all_nil, Bool.and_true, Bool.and_self, Slot.free, Nat.zero_sub, Nat.sub_zero, Nat.sub_self, Nat.reduceEqDiff, id_eq, decide_true, decide_false, eq_self, c__law_longest, c__law_next, c__law_subsets, c__law_take, c__law_tape, c_both_spoilt, c_least_reads, c_longest_unseen, c_next_read, c_staggered, c_takes_reads, T.x_InvalidPlan.ex,  gset_free ha, gset_free hb]
    refine ⟨by omega, by omega, ?_⟩
    rw [rng_isq]
    refine lcR_subE (fun s => ∃ tp : M, s = [.v (.fz (.scr ns)), .v tp, .v (.fz (.int p)), .v (.ml (L.map tupI)), .v (.fz (.int (0 + (i : Int)))), .un, .un, .un, .un, .un, .un, .un, .un, .un, .un, .un, .un, b, .un, .un, .un, .un] ∧ Tape tp) (fun x => .int x) (by rw [isq_len]; unfold sizeLine; omega) ⟨_, rfl, hT⟩ ?_ ?_
    · rintro x hx s ⟨tp, rfl, hT⟩ R R' hR hR'
      simp -dsimp only [↓s_var, ↓s_c, ↓s_op, ↓s_test, ↓s_truth, ↓s_chain, ↓s_and, ↓s_or, ↓s_not, ↓s_andV, ↓s_orV, ↓s_notV, ↓s_if, ↓s_un, ↓s_nil, ↓s_cons, ↓s_cb, ↓s_call, ↓s_tup, ↓s_lst, ↓s_nopart, ↓s_part, ↓s_sl, ↓s_app, ↓s_items, ↓s_rng1, ↓s_rng2, ↓s_rng3, ↓s_next, ↓s_seq, ↓s_break, ↓s_cont, ↓s_drop, ↓s_ret, ↓s_retN, ↓s_ifS, ↓s_asg, ↓s_gNm, ↓s_gTup, ↓s_gNil, ↓s_gCons, ↓s_aug, ↓s_par, ↓s_for, ↓s_while, ↓s_lc, ↓s_lc2, ↓s_yes, ↓s_tvs0, ↓s_tvs1, ↓s_tvV, ↓s_tvS, ↓s_rvV, ↓s_rvS, ↓s_enum, ↓s_zip, ↓s_callIO, ↓fin_t, pins_nil, pins_p, pins_v, pins_un, lent1, slotL_s, ↓putB_1, ↓s_setI, ↓s_dput, ↓s_daug, ↓s_dnew, ↓s_disp, ↓s_flat0, ↓s_flat1, ↓s_never, ↓s_raise, ↓s_neverE, mkD, D.key, Option.map_some, dgetM, ↓br_t, ↓br_f, ↓s_fin0, ↓s_ref, ↓s_tupRg, ↓s_lstRg, ↓s_rg1, ↓s_rg2, hide, hideS, s_resV, s_resS, s_resL0, s_resL1, s_slotM, s_setM, s_frz, s_frzL, wD_some, got_v, got_p, ↓gset_un, ↓gset_v, vslot_v, fslot_v, asB_b, asI_i, asT_t, asL_l, hasL_l, one_1, two_2, int1_1, int2_2, int3_3, ix0, ix1, Slot.fr?, Slot.m?, Slot.put, opz_f1, o_iop, b_lt, o_addI, o_addS, o_addT, o_addL, o_mulI, o_mulT, o_mulL, o_ixL, o_ixT, o_ixW, o_ixC, o_ixS, o_slL, o_slT, o_slS, o_lenL, o_lenT, o_lenW, o_lenC, o_lenD, o_lenS, o_abs, o_intI, o_intB, o_str, o_list, o_tupL, o_tupT, o_isN, o_isNotN, o_isTy, o_neg, t_non, t_bl, t_int, t_str, t_lst, t_tup, t_wtu, t_dic, i_lst, i_tup, i_wtu, i_scr, i_str, q_lst, q_scr, q_tup, q_wtu, o_sort, o_inL, o_inT, o_eqI, o_neI, o_all, o_any, o_sum, o_max2, o_min2, o_eqB, o_neB, o_ixD, o_ixDi, p_str, p_int, s_frzD, hasD_md, small_md, D.seqs, D.tyN, List.getElem?_cons_zero, List.getElem?_cons_succ, List.set_cons_zero, List.set_cons_succ, List.map_cons, List.map_nil, Option.bind_some, Option.map_some, true_and, and_true, and_assoc, startD, Bool.not_true, Bool.not_false, List.length_cons, List.length_nil, List.nil_append, List.cons_append, List.append_nil, List.replicate, Nat.reduceSub, Nat.reduceAdd, Nat.reduceLeDiff, wipeD, unw, freeAt, Option.getD_some, List.all_cons, List.all_nil, Bool.and_true, Bool.and_self, Slot.free, Nat.zero_sub, Nat.sub_zero, Nat.sub_self, Nat.reduceEqDiff, id_eq, decide_true, decide_false, eq_self, c__law_longest, c__law_next, c__law_subsets, c__law_take, c__law_tape, c_both_spoilt, c_least_reads, c_longest_unseen, c_next_read, c_staggered, c_takes_reads, T.x_InvalidPlan.ex]
      refine ⟨hT, by decide, by decide, fun v tp v0 v1 hT => ?_⟩
      try simp -dsimp only [↓s_var, ↓s_c, ↓s_op, ↓s_test, ↓s_truth, ↓s_chain, ↓s_and, ↓s_or, ↓s_not, ↓s_andV, ↓s_orV, ↓s_notV, ↓s_if, ↓s_un, ↓s_nil, ↓s_cons, ↓s_cb, ↓s_call, ↓s_tup, ↓s_lst, ↓s_nopart, ↓s_part, ↓s_sl, ↓s_app, ↓s_items, ↓s_rng1, ↓s_rng2, ↓s_rng3, ↓s_next, ↓s_seq, ↓s_break, ↓s_cont, ↓s_drop, ↓s_ret, ↓s_retN, ↓s_ifS, ↓s_asg, ↓s_gNm, ↓s_gTup, ↓s_gNil, ↓s_gCons, ↓s_aug, ↓s_par, ↓s_for, ↓s_while, ↓s_lc, ↓s_lc2, ↓s_yes, ↓s_tvs0, ↓s_tvs1, ↓s_tvV, ↓s_tvS, ↓s_rvV, ↓s_rvS, ↓s_enum, ↓s_zip, ↓s_callIO, ↓fin_t, pins_nil, pins_p, pins_v, pins_un, lent1, slotL_s, ↓putB_1, ↓s_setI, ↓s_dput, ↓s_daug, ↓s_dnew, ↓s_disp, ↓s_flat0, ↓s_flat1, ↓s_never, ↓s_raise, ↓s_neverE, mkD, D.key, Option.map_some, dgetM, ↓br_t, ↓br_f, ↓s_fin0, ↓s_ref, ↓s_tupRg, ↓s_lstRg, ↓s_rg1, ↓s_rg2, hide, hideS, s_resV, s_resS, s_resL0, s_resL1, s_slotM, s_setM, s_frz, s_frzL, wD_some, got_v, got_p, ↓gset_un, ↓gset_v, vslot_v, fslot_v, asB_b, asI_i, asT_t, asL_l, hasL_l, one_1, two_2, int1_1, int2_2, int3_3, ix0, ix1, Slot.fr?, Slot.m?, Slot.put, opz_f1, o_iop, b_lt, o_addI, o_addS, o_addT, o_addL, o_mulI, o_mulT, o_mulL, o_ixL, o_ixT, o_ixW, o_ixC, o_ixS, o_slL, o_slT, o_slS, o_lenL, o_lenT, o_lenW, o_lenC, o_lenD, o_lenS, o_abs, o_intI, o_intB, o_str, o_list, o_tupL, o_tupT, o_isN, o_isNotN, o_isTy, o_neg, t_non, t_bl, t_int, t_str, t_lst, t_tup, t_wtu, t_dic, i_lst, i_tup, i_wtu, i_scr, i_str, q_lst, q_scr, q_tup, q_wtu, o_sort, o_inL, o_inT, o_eqI, o_neI, o_all, o_any, o_sum, o_max2, o_min2, o_eqB, o_neB, o_ixD, o_ixDi, p_str, p_int, s_frzD, hasD_md, small_md, D.seqs, D.tyN, List.getElem?_cons_zero, List.getElem?_cons_succ, List.set_cons_zero, List.set_cons_succ, List.map_cons, List.map_nil, Option.bind_some, Option.map_some, true_and, and_true, and_assoc, startD, Bool.not_true, Bool.not_false, List.length_cons, List.length_nil, List.nil_append, List.cons_append, List.append_nil, List.replicate, Nat.reduceSub, Nat.reduceAdd, Nat.reduceLeDiff, wipeD, unw, freeAt, Option.getD_some, List.all_cons, List.all_nil, Bool.and_true, Bool.and_self, Slot.free, Nat.zero_sub, Nat.sub_zero, Nat.sub_self, Nat.reduceEqDiff, id_eq, decide_true, decide_false, eq_self, c__law_longest, c__law_next, c__law_subsets, c__law_take, c__law_tape, c_both_spoilt, c_least_reads, c_longest_unseen, c_next_read, c_staggered, c_takes_reads, T.x_InvalidPlan.ex]
      refine br_dec (fun h => ?_) (fun h => ?_)
      · simp -dsimp only [↓s_var, ↓s_c, ↓s_op, ↓s_test, ↓s_truth, ↓s_chain, ↓s_and, ↓s_or, ↓s_not, ↓s_andV, ↓s_orV, ↓s_notV, ↓s_if, ↓s_un, ↓s_nil, ↓s_cons, ↓s_cb, ↓s_call, ↓s_tup, ↓s_lst, ↓s_nopart, ↓s_part, ↓s_sl, ↓s_app, ↓s_items, ↓s_rng1, ↓s_rng2, ↓s_rng3, ↓s_next, ↓s_seq, ↓s_break, ↓s_cont, ↓s_drop, ↓s_ret, ↓s_retN, ↓s_ifS, ↓s_asg, ↓s_gNm, ↓s_gTup, ↓s_gNil, ↓s_gCons, ↓s_aug, ↓s_par, ↓s_for, ↓s_while, ↓s_lc, ↓s_lc2, ↓s_yes, ↓s_tvs0, ↓s_tvs1, ↓s_tvV, ↓s_tvS, ↓s_rvV, ↓s_rvS, ↓s_enum, ↓s_zip, ↓s_callIO, ↓fin_t, pins_nil, pins_p, pins_v, pins_un, lent1, slotL_s, ↓putB_1, ↓s_setI, ↓s_dput, ↓s_daug, ↓s_dnew, ↓s_disp, ↓s_flat0, ↓s_flat1, ↓s_never, ↓s_raise, ↓s_neverE, mkD, D.key, Option.map_some, dgetM, ↓br_t, ↓br_f, ↓s_fin0, ↓s_ref, ↓s_tupRg, ↓s_lstRg, ↓s_rg1, ↓s_rg2, hide, hideS, s_resV, s_resS, s_resL0, s_resL1, s_slotM, s_setM, s_frz, s_frzL, wD_some, got_v, got_p, ↓gset_un, ↓gset_v, vslot_v, fslot_v, asB_b, asI_i, asT_t, asL_l, hasL_l, one_1, two_2, int1_1, int2_2, int3_3, ix0, ix1, Slot.fr?, Slot.m?, Slot.put, opz_f1, o_iop, b_lt, o_addI, o_addS, o_addT, o_addL, o_mulI, o_mulT, o_mulL, o_ixL, o_ixT, o_ixW, o_ixC, o_ixS, o_slL, o_slT, o_slS, o_lenL, o_lenT, o_lenW, o_lenC, o_lenD, o_lenS, o_abs, o_intI, o_intB, o_str, o_list, o_tupL, o_tupT, o_isN, o_isNotN, o_isTy, o_neg, t_non, t_bl, t_int, t_str, t_lst, t_tup, t_wtu, t_dic, i_lst, i_tup, i_wtu, i_scr, i_str, q_lst, q_scr, q_tup, q_wtu, o_sort, o_inL, o_inT, o_eqI, o_neI, o_all, o_any, o_sum, o_max2, o_min2, o_eqB, o_neB, o_ixD, o_ixDi, p_str, p_int, s_frzD, hasD_md, small_md, D.seqs, D.tyN, List.getElem?_cons_zero, List.getElem?_cons_succ, List.set_cons_zero, List.set_cons_succ, List.map_cons, List.map_nil, Option.bind_some, Option.map_some, true_and, and_true, and_assoc, startD, Bool.not_true, Bool.not_false, List.length_cons, List.length_nil, List.nil_append, List.cons_append, List.append_nil, List.replicate, Nat.reduceSub, Nat.reduceAdd, Nat.reduceLeDiff, wipeD, unw, freeAt, Option.getD_some, List.all_cons, List.all_nil, Bool.and_true, Bool.and_self, Slot.free, Nat.zero_sub, Nat.sub_zero, Nat.sub_self, Nat.reduceEqDiff, id_eq, decide_true, decide_false, eq_self, c__law_longest, c__law_next, c__law_subsets, c__law_take, c__law_tape, c_both_spoilt, c_least_reads, c_longest_unseen, c_next_read, c_staggered, c_takes_reads, T.x_InvalidPlan.ex]
        exact hR _ _ rfl ⟨_, rfl, hT⟩
      · simp -dsimp only [↓s_var, ↓s_c, ↓s_op, ↓s_test, ↓s_truth, ↓s_chain, ↓s_and, ↓s_or, ↓s_not, ↓s_andV, ↓s_orV, ↓s_notV, ↓s_if, ↓s_un, ↓s_nil, ↓s_cons, ↓s_cb, ↓s_call, ↓s_tup, ↓s_lst, ↓s_nopart, ↓s_part, ↓s_sl, ↓s_app, ↓s_items, ↓s_rng1, ↓s_rng2, ↓s_rng3, ↓s_next, ↓s_seq, ↓s_break, ↓s_cont, ↓s_drop, ↓s_ret, ↓s_retN, ↓s_ifS, ↓s_asg, ↓s_gNm, ↓s_gTup, ↓s_gNil, ↓s_gCons, ↓s_aug, ↓s_par, ↓s_for, ↓s_while, ↓s_lc, ↓s_lc2, ↓s_yes, ↓s_tvs0, ↓s_tvs1, ↓s_tvV, ↓s_tvS, ↓s_rvV, ↓s_rvS, ↓s_enum, ↓s_zip, ↓s_callIO, ↓fin_t, pins_nil, pins_p, pins_v, pins_un, lent1, slotL_s, ↓putB_1, ↓s_setI, ↓s_dput, ↓s_daug, ↓s_dnew, ↓s_disp, ↓s_flat0, ↓s_flat1, ↓s_never, ↓s_raise, ↓s_neverE, mkD, D.key, Option.map_some, dgetM, ↓br_t, ↓br_f, ↓s_fin0, ↓s_ref, ↓s_tupRg, ↓s_lstRg, ↓s_rg1, ↓s_rg2, hide, hideS, s_resV, s_resS, s_resL0, s_resL1, s_slotM, s_setM, s_frz, s_frzL, wD_some, got_v, got_p, ↓gset_un, ↓gset_v, vslot_v, fslot_v, asB_b, asI_i, asT_t, asL_l, hasL_l, one_1, two_2, int1_1, int2_2, int3_3, ix0, ix1, Slot.fr?, Slot.m?, Slot.put, opz_f1, o_iop, b_lt, o_addI, o_addS, o_addT, o_addL, o_mulI, o_mulT, o_mulL, o_ixL, o_ixT, o_ixW, o_ixC, o_ixS, o_slL, o_slT, o_slS, o_lenL, o_lenT, o_lenW, o_lenC, o_lenD, o_lenS, o_abs, o_intI, o_intB, o_str, o_list, o_tupL, o_tupT, o_isN, o_isNotN, o_isTy, o_neg, t_non, t_bl, t_int, t_str, t_lst, t_tup, t_wtu, t_dic, i_lst, i_tup, i_wtu, i_scr, i_str, q_lst, q_scr, q_tup, q_wtu, o_sort, o_inL, o_inT, o_eqI, o_neI, o_all, o_any, o_sum, o_max2, o_min2, o_eqB, o_neB, o_ixD, o_ixDi, p_str, p_int, s_frzD, hasD_md, small_md, D.seqs, D.tyN, List.getElem?_cons_zero, List.getElem?_cons_succ, List.set_cons_zero, List.set_cons_succ, List.map_cons, List.map_nil, Option.bind_some, Option.map_some, true_and, and_true, and_assoc, startD, Bool.not_true, Bool.not_false, List.length_cons, List.length_nil, List.nil_append, List.cons_append, List.append_nil, List.replicate, Nat.reduceSub, Nat.reduceAdd, Nat.reduceLeDiff, wipeD, unw, freeAt, Option.getD_some, List.all_cons, List.all_nil, Bool.and_true, Bool.and_self, Slot.free, Nat.zero_sub, Nat.sub_zero, Nat.sub_self, Nat.reduceEqDiff, id_eq, decide_true, decide_false, eq_self, c__law_longest, c__law_next, c__law_subsets, c__law_take, c__law_tape, c_both_spoilt, c_least_reads, c_longest_unseen, c_next_read, c_staggered, c_takes_reads, T.x_InvalidPlan.ex]
        exact hR' _ ⟨_, rfl, hT⟩
    · rintro ys s hys ⟨tp, rfl, hT⟩
      have hin : ∀ n ∈ ys, 0 ≤ n ∧ n < p := fun n hn => by
        have := isq_mem.mp (hys.subset hn)
        omega
      have hasc : ys.Pairwise (· < ·) := by
        refine List.Pairwise.sublist hys ?_
        unfold isq
        rw [List.pairwise_map]
        exact List.Pairwise.imp (fun {a b} h => by omega) List.pairwise_lt_range
      simp -dsimp only [↓s_var, ↓s_c, ↓s_op, ↓s_test, ↓s_truth, ↓s_chain, ↓s_and, ↓s_or, ↓s_not, ↓s_andV, ↓s_orV, ↓s_notV, ↓s_if, ↓s_un, ↓s_nil, ↓s_cons, ↓s_cb, ↓s_call, ↓s_tup, ↓s_lst, ↓s_nopart, ↓s_part, ↓s_sl, ↓s_app, ↓s_items, ↓s_rng1, ↓s_rng2, ↓s_rng3, ↓s_next, ↓s_seq, ↓s_break, ↓s_cont, ↓s_drop, ↓s_ret, ↓s_retN, ↓s_ifS, ↓s_asg, ↓s_gNm, ↓s_gTup, ↓s_gNil, ↓s_gCons, ↓s_aug, ↓s_par, ↓s_for, ↓s_while, ↓s_lc, ↓s_lc2, ↓s_yes, ↓s_tvs0, ↓s_tvs1, ↓s_tvV, ↓s_tvS, ↓s_rvV, ↓s_rvS, ↓s_enum, ↓s_zip, ↓s_callIO, ↓fin_t, pins_nil, pins_p, pins_v, pins_un, lent1, slotL_s, ↓putB_1, ↓s_setI, ↓s_dput, ↓s_daug, ↓s_dnew, ↓s_disp, ↓s_flat0, ↓s_flat1, ↓s_never, ↓s_raise, ↓s_neverE, mkD, D.key, Option.map_some, dgetM, ↓br_t, ↓br_f, ↓s_fin0, ↓s_ref, ↓s_tupRg, ↓s_lstRg, ↓s_rg1, ↓s_rg2, hide, hideS, s_resV, s_resS, s_resL0, s_resL1, s_slotM, s_setM, s_frz, s_frzL, wD_some, got_v, got_p, ↓gset_un, ↓gset_v, vslot_v, fslot_v, asB_b, asI_i, asT_t, asL_l, hasL_l, one_1, two_2, int1_1, int2_2, int3_3, ix0, ix1, Slot.fr?, Slot.m?, Slot.put, opz_f1, o_iop, b_lt, o_addI, o_addS, o_addT, o_addL, o_mulI, o_mulT, o_mulL, o_ixL, o_ixT, o_ixW, o_ixC, o_ixS, o_slL, o_slT, o_slS, o_lenL, o_lenT, o_lenW, o_lenC, o_lenD, o_lenS, o_abs, o_intI, o_intB, o_str, o_list, o_tupL, o_tupT, o_isN, o_isNotN, o_isTy, o_neg, t_non, t_bl, t_int, t_str, t_lst, t_tup, t_wtu, t_dic, i_lst, i_tup, i_wtu, i_scr, i_str, q_lst, q_scr, q_tup, q_wtu, o_sort, o_inL, o_inT, o_eqI, o_neI, o_all, o_any, o_sum, o_max2, o_min2, o_eqB, o_neB, o_ixD, o_ixDi, p_str, p_int, s_frzD, hasD_md, small_md, D.seqs, D.tyN, List.getElem?_cons_zero, List.getElem?_cons_succ, List.set_cons_zero, List.set_cons_succ, List.map_cons, List.map_nil, Option.bind_some, Option.map_some, true_and, and_true, and_assoc, startD, Bool.not_true, Bool.not_false, List.length_cons, List.length_nil, List.nil_append, List.cons_append, List.append_nil, List.replicate, Nat.reduceSub, Nat.reduceAdd, Nat.reduceLeDiff, wipeD, unw, freeAt, Option.getD_some, List.all_cons, List.all_nil, Bool.and_true, Bool.and_self, Slot.free, Nat.zero_sub, Nat.sub_zero, Nat.sub_self, Nat.reduceEqDiff, id_eq, decide_true, decide_false, eq_self, c__law_longest, c__law_next, c__law_subsets, c__law_take, c__law_tape, c_both_spoilt, c_least_reads, c_longest_unseen, c_next_read, c_staggered, c_takes_reads, T.x_InvalidPlan.ex,  gset_free hb, cut_to8]
      refine br_of (fun h => ?_) (fun h => ?_)
      · simp -dsimp only [↓s_var, ↓s_c, ↓s_op, ↓s_test, ↓s_truth, ↓s_chain, ↓s_and, ↓s_or, ↓s_not, ↓s_andV, ↓s_orV, ↓s_notV, ↓s_if, ↓s_un, ↓s_nil, ↓s_cons, ↓s_cb, ↓s_call, ↓s_tup, ↓s_lst, ↓s_nopart, ↓s_part, ↓s_sl, ↓s_app, ↓s_items, ↓s_rng1, ↓s_rng2, ↓s_rng3, ↓s_next, ↓s_seq, ↓s_break, ↓s_cont, ↓s_drop, ↓s_ret, ↓s_retN, ↓s_ifS, ↓s_asg, ↓s_gNm, ↓s_gTup, ↓s_gNil, ↓s_gCons, ↓s_aug, ↓s_par, ↓s_for, ↓s_while, ↓s_lc, ↓s_lc2, ↓s_yes, ↓s_tvs0, ↓s_tvs1, ↓s_tvV, ↓s_tvS, ↓s_rvV, ↓s_rvS, ↓s_enum, ↓s_zip, ↓s_callIO, ↓fin_t, pins_nil, pins_p, pins_v, pins_un, lent1, slotL_s, ↓putB_1, ↓s_setI, ↓s_dput, ↓s_daug, ↓s_dnew, ↓s_disp, ↓s_flat0, ↓s_flat1, ↓s_never, ↓s_raise, ↓s_neverE, mkD, D.key, Option.map_some, dgetM, ↓br_t, ↓br_f, ↓s_fin0, ↓s_ref, ↓s_tupRg, ↓s_lstRg, ↓s_rg1, ↓s_rg2, hide, hideS, s_resV, s_resS, s_resL0, s_resL1, s_slotM, s_setM, s_frz, s_frzL, wD_some, got_v, got_p, ↓gset_un, ↓gset_v, vslot_v, fslot_v, asB_b, asI_i, asT_t, asL_l, hasL_l, one_1, two_2, int1_1, int2_2, int3_3, ix0, ix1, Slot.fr?, Slot.m?, Slot.put, opz_f1, o_iop, b_lt, o_addI, o_addS, o_addT, o_addL, o_mulI, o_mulT, o_mulL, o_ixL, o_ixT, o_ixW, o_ixC, o_ixS, o_slL, o_slT, o_slS, o_lenL, o_lenT, o_lenW, o_lenC, o_lenD, o_lenS, o_abs, o_intI, o_intB, o_str, o_list, o_tupL, o_tupT, o_isN, o_isNotN, o_isTy, o_neg, t_non, t_bl, t_int, t_str, t_lst, t_tup, t_wtu, t_dic, i_lst, i_tup, i_wtu, i_scr, i_str, q_lst, q_scr, q_tup, q_wtu, o_sort, o_inL, o_inT, o_eqI, o_neI, o_all, o_any, o_sum, o_max2, o_min2, o_eqB, o_neB, o_ixD, o_ixDi, p_str, p_int, s_frzD, hasD_md, small_md, D.seqs, D.tyN, List.getElem?_cons_zero, List.getElem?_cons_succ, List.set_cons_zero, List.set_cons_succ, List.map_cons, List.map_nil, Option.bind_some, Option.map_some, true_and, and_true, and_assoc, startD, Bool.not_true, Bool.not_false, List.length_cons, List.length_nil, List.nil_append, List.cons_append, List.append_nil, List.replicate, Nat.reduceSub, Nat.reduceAdd, Nat.reduceLeDiff, wipeD, unw, freeAt, Option.getD_some, List.all_cons, List.all_nil, Bool.and_true, Bool.and_self, Slot.free, Nat.zero_sub, Nat.sub_zero, Nat.sub_self, Nat.reduceEqDiff, id_eq, decide_true, decide_false, eq_self, c__law_longest, c__law_next, c__law_subsets, c__law_take, c__law_tape, c_both_spoilt, c_least_reads, c_longest_unseen, c_next_read, c_staggered, c_takes_reads, T.x_InvalidPlan.ex,  cut_to8]
        refine ⟨by simp; unfold sizeLine; omega, hN _ ⟨_, L ++ [ys.take 8], .v (.fz (.int (0 + (i : Int)))), .v (.ml ((ys.take 8).map .int)), by simp [tupI, List.map_take], hT, by simp [hL], fun l hl => ?_, rfl, rfl⟩⟩
        rcases List.mem_append.mp hl with q | q
        · exact hok l q
        · rw [List.mem_singleton.mp q]
          simp at h
          exact ⟨by omega, ⟨by rw [List.length_take]; omega, by rw [List.length_take]; omega⟩, hasc.sublist (List.take_sublist _ _), fun n hn => hin n (List.mem_of_mem_take hn)⟩
      · simp -dsimp only [↓s_var, ↓s_c, ↓s_op, ↓s_test, ↓s_truth, ↓s_chain, ↓s_and, ↓s_or, ↓s_not, ↓s_andV, ↓s_orV, ↓s_notV, ↓s_if, ↓s_un, ↓s_nil, ↓s_cons, ↓s_cb, ↓s_call, ↓s_tup, ↓s_lst, ↓s_nopart, ↓s_part, ↓s_sl, ↓s_app, ↓s_items, ↓s_rng1, ↓s_rng2, ↓s_rng3, ↓s_next, ↓s_seq, ↓s_break, ↓s_cont, ↓s_drop, ↓s_ret, ↓s_retN, ↓s_ifS, ↓s_asg, ↓s_gNm, ↓s_gTup, ↓s_gNil, ↓s_gCons, ↓s_aug, ↓s_par, ↓s_for, ↓s_while, ↓s_lc, ↓s_lc2, ↓s_yes, ↓s_tvs0, ↓s_tvs1, ↓s_tvV, ↓s_tvS, ↓s_rvV, ↓s_rvS, ↓s_enum, ↓s_zip, ↓s_callIO, ↓fin_t, pins_nil, pins_p, pins_v, pins_un, lent1, slotL_s, ↓putB_1, ↓s_setI, ↓s_dput, ↓s_daug, ↓s_dnew, ↓s_disp, ↓s_flat0, ↓s_flat1, ↓s_never, ↓s_raise, ↓s_neverE, mkD, D.key, Option.map_some, dgetM, ↓br_t, ↓br_f, ↓s_fin0, ↓s_ref, ↓s_tupRg, ↓s_lstRg, ↓s_rg1, ↓s_rg2, hide, hideS, s_resV, s_resS, s_resL0, s_resL1, s_slotM, s_setM, s_frz, s_frzL, wD_some, got_v, got_p, ↓gset_un, ↓gset_v, vslot_v, fslot_v, asB_b, asI_i, asT_t, asL_l, hasL_l, one_1, two_2, int1_1, int2_2, int3_3, ix0, ix1, Slot.fr?, Slot.m?, Slot.put, opz_f1, o_iop, b_lt, o_addI, o_addS, o_addT, o_addL, o_mulI, o_mulT, o_mulL, o_ixL, o_ixT, o_ixW, o_ixC, o_ixS, o_slL, o_slT, o_slS, o_lenL, o_lenT, o_lenW, o_lenC, o_lenD, o_lenS, o_abs, o_intI, o_intB, o_str, o_list, o_tupL, o_tupT, o_isN, o_isNotN, o_isTy, o_neg, t_non, t_bl, t_int, t_str, t_lst, t_tup, t_wtu, t_dic, i_lst, i_tup, i_wtu, i_scr, i_str, q_lst, q_scr, q_tup, q_wtu, o_sort, o_inL, o_inT, o_eqI, o_neI, o_all, o_any, o_sum, o_max2, o_min2, o_eqB, o_neB, o_ixD, o_ixDi, p_str, p_int, s_frzD, hasD_md, small_md, D.seqs, D.tyN, List.getElem?_cons_zero, List.getElem?_cons_succ, List.set_cons_zero, List.set_cons_succ, List.map_cons, List.map_nil, Option.bind_some, Option.map_some, true_and, and_true, and_assoc, startD, Bool.not_true, Bool.not_false, List.length_cons, List.length_nil, List.nil_append, List.cons_append, List.append_nil, List.replicate, Nat.reduceSub, Nat.reduceAdd, Nat.reduceLeDiff, wipeD, unw, freeAt, Option.getD_some, List.all_cons, List.all_nil, Bool.and_true, Bool.and_self, Slot.free, Nat.zero_sub, Nat.sub_zero, Nat.sub_self, Nat.reduceEqDiff, id_eq, decide_true, decide_false, eq_self, c__law_longest, c__law_next, c__law_subsets, c__law_take, c__law_tape, c_both_spoilt, c_least_reads, c_longest_unseen, c_next_read, c_staggered, c_takes_reads, T.x_InvalidPlan.ex]
        refine ⟨hT, by omega, by omega, fun v tp v0 v1 hT => ?_⟩
        try simp -dsimp only [↓s_var, ↓s_c, ↓s_op, ↓s_test, ↓s_truth, ↓s_chain, ↓s_and, ↓s_or, ↓s_not, ↓s_andV, ↓s_orV, ↓s_notV, ↓s_if, ↓s_un, ↓s_nil, ↓s_cons, ↓s_cb, ↓s_call, ↓s_tup, ↓s_lst, ↓s_nopart, ↓s_part, ↓s_sl, ↓s_app, ↓s_items, ↓s_rng1, ↓s_rng2, ↓s_rng3, ↓s_next, ↓s_seq, ↓s_break, ↓s_cont, ↓s_drop, ↓s_ret, ↓s_retN, ↓s_ifS, ↓s_asg, ↓s_gNm, ↓s_gTup, ↓s_gNil, ↓s_gCons, ↓s_aug, ↓s_par, ↓s_for, ↓s_while, ↓s_lc, ↓s_lc2, ↓s_yes, ↓s_tvs0, ↓s_tvs1, ↓s_tvV, ↓s_tvS, ↓s_rvV, ↓s_rvS, ↓s_enum, ↓s_zip, ↓s_callIO, ↓fin_t, pins_nil, pins_p, pins_v, pins_un, lent1, slotL_s, ↓putB_1, ↓s_setI, ↓s_dput, ↓s_daug, ↓s_dnew, ↓s_disp, ↓s_flat0, ↓s_flat1, ↓s_never, ↓s_raise, ↓s_neverE, mkD, D.key, Option.map_some, dgetM, ↓br_t, ↓br_f, ↓s_fin0, ↓s_ref, ↓s_tupRg, ↓s_lstRg, ↓s_rg1, ↓s_rg2, hide, hideS, s_resV, s_resS, s_resL0, s_resL1, s_slotM, s_setM, s_frz, s_frzL, wD_some, got_v, got_p, ↓gset_un, ↓gset_v, vslot_v, fslot_v, asB_b, asI_i, asT_t, asL_l, hasL_l, one_1, two_2, int1_1, int2_2, int3_3, ix0, ix1, Slot.fr?, Slot.m?, Slot.put, opz_f1, o_iop, b_lt, o_addI, o_addS, o_addT, o_addL, o_mulI, o_mulT, o_mulL, o_ixL, o_ixT, o_ixW, o_ixC, o_ixS, o_slL, o_slT, o_slS, o_lenL, o_lenT, o_lenW, o_lenC, o_lenD, o_lenS, o_abs, o_intI, o_intB, o_str, o_list, o_tupL, o_tupT, o_isN, o_isNotN, o_isTy, o_neg, t_non, t_bl, t_int, t_str, t_lst, t_tup, t_wtu, t_dic, i_lst, i_tup, i_wtu, i_scr, i_str, q_lst, q_scr, q_tup, q_wtu, o_sort, o_inL, o_inT, o_eqI, o_neI, o_all, o_any, o_sum, o_max2, o_min2, o_eqB, o_neB, o_ixD, o_ixDi, p_str, p_int, s_frzD, hasD_md, small_md, D.seqs, D.tyN, List.getElem?_cons_zero, List.getElem?_cons_succ, List.set_cons_zero, List.set_cons_succ, List.map_cons, List.map_nil, Option.bind_some, Option.map_some, true_and, and_true, and_assoc, startD, Bool.not_true, Bool.not_false, List.length_cons, List.length_nil, List.nil_append, List.cons_append, List.append_nil, List.replicate, Nat.reduceSub, Nat.reduceAdd, Nat.reduceLeDiff, wipeD, unw, freeAt, Option.getD_some, List.all_cons, List.all_nil, Bool.and_true, Bool.and_self, Slot.free, Nat.zero_sub, Nat.sub_zero, Nat.sub_self, Nat.reduceEqDiff, id_eq, decide_true, decide_false, eq_self, c__law_longest, c__law_next, c__law_subsets, c__law_take, c__law_tape, c_both_spoilt, c_least_reads, c_longest_unseen, c_next_read, c_staggered, c_takes_reads, T.x_InvalidPlan.ex]
        refine ⟨by decide, by simp; unfold sizeLine; omega, hN _ ⟨_, L ++ [[v]], _, _, by rw [List.map_append]; rfl, hT, by simp [hL], fun l hl => ?_, rfl, rfl⟩⟩
        rcases List.mem_append.mp hl with q | q
        · exact hok l q
        · rw [List.mem_singleton.mp q]
          exact ⟨by omega, by simp, by simp, fun n hn => by rw [List.mem_singleton.mp hn]; omega⟩
  rintro s ⟨tp, L, a, b, rfl, hT, hL, hok, ha, hb⟩
  obtain ⟨A, C, rfl⟩ : ∃ A C, L = [A, C] := by
    match L, hL with
    | [A, C], _ => exact ⟨A, C, rfl⟩
  have okA := hok A (by simp)
  have okC := hok C (by simp)
  clear hok hL
  simp -dsimp only [↓s_var, ↓s_c, ↓s_op, ↓s_test, ↓s_truth, ↓s_chain, ↓s_and, ↓s_or, ↓s_not, ↓s_andV, ↓s_orV, ↓s_notV, ↓s_if, ↓s_un, ↓s_nil, ↓s_cons, ↓s_cb, ↓s_call, ↓s_tup, ↓s_lst, ↓s_nopart, ↓s_part, ↓s_sl, ↓s_app, ↓s_items, ↓s_rng1, ↓s_rng2, ↓s_rng3, ↓s_next, ↓s_seq, ↓s_break, ↓s_cont, ↓s_drop, ↓s_ret, ↓s_retN, ↓s_ifS, ↓s_asg, ↓s_gNm, ↓s_gTup, ↓s_gNil, ↓s_gCons, ↓s_aug, ↓s_par, ↓s_for, ↓s_while, ↓s_lc, ↓s_lc2, ↓s_yes, ↓s_tvs0, ↓s_tvs1, ↓s_tvV, ↓s_tvS, ↓s_rvV, ↓s_rvS, ↓s_enum, ↓s_zip, ↓s_callIO, ↓fin_t, pins_nil, pins_p, pins_v, pins_un, lent1, slotL_s, ↓putB_1, ↓s_setI, ↓s_dput, ↓s_daug, ↓s_dnew, ↓s_disp, ↓s_flat0, ↓s_flat1, ↓s_never, ↓s_raise, ↓s_neverE, mkD, D.key, Option.map_some, dgetM, ↓br_t, ↓br_f, ↓s_fin0, ↓s_ref, ↓s_tupRg, ↓s_lstRg, ↓s_rg1, ↓s_rg2, hide, hideS, s_resV, s_resS, s_resL0, s_resL1, s_slotM, s_setM, s_frz, s_frzL, wD_some, got_v, got_p, ↓gset_un, ↓gset_v, vslot_v, fslot_v, asB_b, asI_i, asT_t, asL_l, hasL_l, one_1, two_2, int1_1, int2_2, int3_3, ix0, ix1, Slot.fr?, Slot.m?, Slot.put, opz_f1, o_iop, b_lt, o_addI, o_addS, o_addT, o_addL, o_mulI, o_mulT, o_mulL, o_ixL, o_ixT, o_ixW, o_ixC, o_ixS, o_slL, o_slT, o_slS, o_lenL, o_lenT, o_lenW, o_lenC, o_lenD, o_lenS, o_abs, o_intI, o_intB, o_str, o_list, o_tupL, o_tupT, o_isN, o_isNotN, o_isTy, o_neg, t_non, t_bl, t_int, t_str, t_lst, t_tup, t_wtu, t_dic, i_lst, i_tup, i_wtu, i_scr, i_str, q_lst, q_scr, q_tup, q_wtu, o_sort, o_inL, o_inT, o_eqI, o_neI, o_all, o_any, o_sum, o_max2, o_min2, o_eqB, o_neB, o_ixD, o_ixDi, p_str, p_int, s_frzD, hasD_md, small_md, D.seqs, D.tyN, List.getElem?_cons_zero, List.getElem?_cons_succ, List.set_cons_zero, List.set_cons_succ, List.map_cons, List.map_nil, Option.bind_some, Option.map_some, true_and, and_true, and_assoc, startD, Bool.not_true, Bool.not_false, List.length_cons, List.length_nil, List.nil_append, List.cons_append, List.append_nil, List.replicate, Nat.reduceSub, Nat.reduceAdd, Nat.reduceLeDiff, wipeD, unw, freeAt, Option.getD_some, List.all_cons, List.all_nil, Bool.and_true, Bool.and_self, Slot.free, Nat.zero_sub, Nat.sub_zero, Nat.sub_self, Nat.reduceEqDiff, id_eq, decide_true, decide_false, eq_self, c__law_longest, c__law_next, c__law_subsets, c__law_take, c__law_tape, c_both_spoilt, c_least_reads, c_longest_unseen, c_next_read, c_staggered, c_takes_reads, T.x_InvalidPlan.ex,  tupI]
  refine ⟨by decide, by decide, ?_⟩
  have p60 : p ≤ 60 := by omega
  have lenA : A.length ≤ 1000 := by have := okA.2.1; omega
  have lenC : C.length ≤ 1000 := by have := okC.2.1; omega
  refine for_rng (fun i s => ∃ (tp : M) (a b c : DL.Slot), s = [.v (.fz (.scr ns)), .v tp, .v (.fz (.int p)), .v (.ml [tupI A, tupI C]), a, .un, .un, .un, .un, .un, .un, .un, .un, .un, .un, .un, .un, b, c, .un, .un, .un] ∧ Tape tp ∧ a.pinned = false ∧ c.pinned = false ∧ (0 < i → a = kS i)) ⟨_, _, _, _, rfl, hT, ha, rfl, fun h => absurd h (by decide)⟩ ?_ ?_
  · rintro i s hi ⟨tp, a, b, c, rfl, hT, ha, hc, -⟩ N B R hN - -
    simp -dsimp only [↓s_var, ↓s_c, ↓s_op, ↓s_test, ↓s_truth, ↓s_chain, ↓s_and, ↓s_or, ↓s_not, ↓s_andV, ↓s_orV, ↓s_notV, ↓s_if, ↓s_un, ↓s_nil, ↓s_cons, ↓s_cb, ↓s_call, ↓s_tup, ↓s_lst, ↓s_nopart, ↓s_part, ↓s_sl, ↓s_app, ↓s_items, ↓s_rng1, ↓s_rng2, ↓s_rng3, ↓s_next, ↓s_seq, ↓s_break, ↓s_cont, ↓s_drop, ↓s_ret, ↓s_retN, ↓s_ifS, ↓s_asg, ↓s_gNm, ↓s_gTup, ↓s_gNil, ↓s_gCons, ↓s_aug, ↓s_par, ↓s_for, ↓s_while, ↓s_lc, ↓s_lc2, ↓s_yes, ↓s_tvs0, ↓s_tvs1, ↓s_tvV, ↓s_tvS, ↓s_rvV, ↓s_rvS, ↓s_enum, ↓s_zip, ↓s_callIO, ↓fin_t, pins_nil, pins_p, pins_v, pins_un, lent1, slotL_s, ↓putB_1, ↓s_setI, ↓s_dput, ↓s_daug, ↓s_dnew, ↓s_disp, ↓s_flat0, ↓s_flat1, ↓s_never, ↓s_raise, ↓s_neverE, mkD, D.key, Option.map_some, dgetM, ↓br_t, ↓br_f, ↓s_fin0, ↓s_ref, ↓s_tupRg, ↓s_lstRg, ↓s_rg1, ↓s_rg2, hide, hideS, s_resV, s_resS, s_resL0, s_resL1, s_slotM, s_setM, s_frz, s_frzL, wD_some, got_v, got_p, ↓gset_un, ↓gset_v, vslot_v, fslot_v, asB_b, asI_i, asT_t, asL_l, hasL_l, one_1, two_2, int1_1, int2_2, int3_3, ix0, ix1, Slot.fr?, Slot.m?, Slot.put, opz_f1, o_iop, b_lt, o_addI, o_addS, o_addT, o_addL, o_mulI, o_mulT, o_mulL, o_ixL, o_ixT, o_ixW, o_ixC, o_ixS, o_slL, o_slT, o_slS, o_lenL, o_lenT, o_lenW, o_lenC, o_lenD, o_lenS, o_abs, o_intI, o_intB, o_str, o_list, o_tupL, o_tupT, o_isN, o_isNotN, o_isTy, o_neg, t_non, t_bl, t_int, t_str, t_lst, t_tup, t_wtu, t_dic, i_lst, i_tup, i_wtu, i_scr, i_str, q_lst, q_scr, q_tup, q_wtu, o_sort, o_inL, o_inT, o_eqI, o_neI, o_all, o_any, o_sum, o_max2, o_min2, o_eqB, o_neB, o_ixD, o_ixDi, p_str, p_int, s_frzD, hasD_md, small_md, D.seqs, D.tyN, List.getElem?_cons_zero, List.getElem?_cons_succ, List.set_cons_zero, List.set_cons_succ, List.map_cons, List.map_nil, Option.bind_some, Option.map_some, true_and, and_true, and_assoc, startD, Bool.not_true, Bool.not_false, List.length_cons, List.length_nil, List.nil_append, List.cons_append, List.append_nil, List.replicate, Nat.reduceSub, Nat.reduceAdd, Nat.reduceLeDiff, wipeD, unw, freeAt, Option.getD_some, List.all_cons, List.all_nil, Bool.and_true, Bool.and_self, Slot.free, Nat.zero_sub, Nat.sub_zero, Nat.sub_self, Nat.reduceEqDiff, id_eq, decide_true, decide_false, eq_self, c__law_longest, c__law_next, c__law_subsets, c__law_take, c__law_tape, c_both_spoilt, c_least_reads, c_longest_unseen, c_next_read, c_staggered, c_takes_reads, T.x_InvalidPlan.ex,  tupI, gset_free ha, gset_free hc]
    refine ⟨hT, by decide, by decide, fun v tp v0 v1 hT => ?_⟩
    try simp -dsimp only [↓s_var, ↓s_c, ↓s_op, ↓s_test, ↓s_truth, ↓s_chain, ↓s_and, ↓s_or, ↓s_not, ↓s_andV, ↓s_orV, ↓s_notV, ↓s_if, ↓s_un, ↓s_nil, ↓s_cons, ↓s_cb, ↓s_call, ↓s_tup, ↓s_lst, ↓s_nopart, ↓s_part, ↓s_sl, ↓s_app, ↓s_items, ↓s_rng1, ↓s_rng2, ↓s_rng3, ↓s_next, ↓s_seq, ↓s_break, ↓s_cont, ↓s_drop, ↓s_ret, ↓s_retN, ↓s_ifS, ↓s_asg, ↓s_gNm, ↓s_gTup, ↓s_gNil, ↓s_gCons, ↓s_aug, ↓s_par, ↓s_for, ↓s_while, ↓s_lc, ↓s_lc2, ↓s_yes, ↓s_tvs0, ↓s_tvs1, ↓s_tvV, ↓s_tvS, ↓s_rvV, ↓s_rvS, ↓s_enum, ↓s_zip, ↓s_callIO, ↓fin_t, pins_nil, pins_p, pins_v, pins_un, lent1, slotL_s, ↓putB_1, ↓s_setI, ↓s_dput, ↓s_daug, ↓s_dnew, ↓s_disp, ↓s_flat0, ↓s_flat1, ↓s_never, ↓s_raise, ↓s_neverE, mkD, D.key, Option.map_some, dgetM, ↓br_t, ↓br_f, ↓s_fin0, ↓s_ref, ↓s_tupRg, ↓s_lstRg, ↓s_rg1, ↓s_rg2, hide, hideS, s_resV, s_resS, s_resL0, s_resL1, s_slotM, s_setM, s_frz, s_frzL, wD_some, got_v, got_p, ↓gset_un, ↓gset_v, vslot_v, fslot_v, asB_b, asI_i, asT_t, asL_l, hasL_l, one_1, two_2, int1_1, int2_2, int3_3, ix0, ix1, Slot.fr?, Slot.m?, Slot.put, opz_f1, o_iop, b_lt, o_addI, o_addS, o_addT, o_addL, o_mulI, o_mulT, o_mulL, o_ixL, o_ixT, o_ixW, o_ixC, o_ixS, o_slL, o_slT, o_slS, o_lenL, o_lenT, o_lenW, o_lenC, o_lenD, o_lenS, o_abs, o_intI, o_intB, o_str, o_list, o_tupL, o_tupT, o_isN, o_isNotN, o_isTy, o_neg, t_non, t_bl, t_int, t_str, t_lst, t_tup, t_wtu, t_dic, i_lst, i_tup, i_wtu, i_scr, i_str, q_lst, q_scr, q_tup, q_wtu, o_sort, o_inL, o_inT, o_eqI, o_neI, o_all, o_any, o_sum, o_max2, o_min2, o_eqB, o_neB, o_ixD, o_ixDi, p_str, p_int, s_frzD, hasD_md, small_md, D.seqs, D.tyN, List.getElem?_cons_zero, List.getElem?_cons_succ, List.set_cons_zero, List.set_cons_succ, List.map_cons, List.map_nil, Option.bind_some, Option.map_some, true_and, and_true, and_assoc, startD, Bool.not_true, Bool.not_false, List.length_cons, List.length_nil, List.nil_append, List.cons_append, List.append_nil, List.replicate, Nat.reduceSub, Nat.reduceAdd, Nat.reduceLeDiff, wipeD, unw, freeAt, Option.getD_some, List.all_cons, List.all_nil, Bool.and_true, Bool.and_self, Slot.free, Nat.zero_sub, Nat.sub_zero, Nat.sub_self, Nat.reduceEqDiff, id_eq, decide_true, decide_false, eq_self, c__law_longest, c__law_next, c__law_subsets, c__law_take, c__law_tape, c_both_spoilt, c_least_reads, c_longest_unseen, c_next_read, c_staggered, c_takes_reads, T.x_InvalidPlan.ex]
    refine ⟨A, rfl, lenA, fun _ => ?_, fun h => absurd okA h⟩
    try simp -dsimp only [↓s_var, ↓s_c, ↓s_op, ↓s_test, ↓s_truth, ↓s_chain, ↓s_and, ↓s_or, ↓s_not, ↓s_andV, ↓s_orV, ↓s_notV, ↓s_if, ↓s_un, ↓s_nil, ↓s_cons, ↓s_cb, ↓s_call, ↓s_tup, ↓s_lst, ↓s_nopart, ↓s_part, ↓s_sl, ↓s_app, ↓s_items, ↓s_rng1, ↓s_rng2, ↓s_rng3, ↓s_next, ↓s_seq, ↓s_break, ↓s_cont, ↓s_drop, ↓s_ret, ↓s_retN, ↓s_ifS, ↓s_asg, ↓s_gNm, ↓s_gTup, ↓s_gNil, ↓s_gCons, ↓s_aug, ↓s_par, ↓s_for, ↓s_while, ↓s_lc, ↓s_lc2, ↓s_yes, ↓s_tvs0, ↓s_tvs1, ↓s_tvV, ↓s_tvS, ↓s_rvV, ↓s_rvS, ↓s_enum, ↓s_zip, ↓s_callIO, ↓fin_t, pins_nil, pins_p, pins_v, pins_un, lent1, slotL_s, ↓putB_1, ↓s_setI, ↓s_dput, ↓s_daug, ↓s_dnew, ↓s_disp, ↓s_flat0, ↓s_flat1, ↓s_never, ↓s_raise, ↓s_neverE, mkD, D.key, Option.map_some, dgetM, ↓br_t, ↓br_f, ↓s_fin0, ↓s_ref, ↓s_tupRg, ↓s_lstRg, ↓s_rg1, ↓s_rg2, hide, hideS, s_resV, s_resS, s_resL0, s_resL1, s_slotM, s_setM, s_frz, s_frzL, wD_some, got_v, got_p, ↓gset_un, ↓gset_v, vslot_v, fslot_v, asB_b, asI_i, asT_t, asL_l, hasL_l, one_1, two_2, int1_1, int2_2, int3_3, ix0, ix1, Slot.fr?, Slot.m?, Slot.put, opz_f1, o_iop, b_lt, o_addI, o_addS, o_addT, o_addL, o_mulI, o_mulT, o_mulL, o_ixL, o_ixT, o_ixW, o_ixC, o_ixS, o_slL, o_slT, o_slS, o_lenL, o_lenT, o_lenW, o_lenC, o_lenD, o_lenS, o_abs, o_intI, o_intB, o_str, o_list, o_tupL, o_tupT, o_isN, o_isNotN, o_isTy, o_neg, t_non, t_bl, t_int, t_str, t_lst, t_tup, t_wtu, t_dic, i_lst, i_tup, i_wtu, i_scr, i_str, q_lst, q_scr, q_tup, q_wtu, o_sort, o_inL, o_inT, o_eqI, o_neI, o_all, o_any, o_sum, o_max2, o_min2, o_eqB, o_neB, o_ixD, o_ixDi, p_str, p_int, s_frzD, hasD_md, small_md, D.seqs, D.tyN, List.getElem?_cons_zero, List.getElem?_cons_succ, List.set_cons_zero, List.set_cons_succ, List.map_cons, List.map_nil, Option.bind_some, Option.map_some, true_and, and_true, and_assoc, startD, Bool.not_true, Bool.not_false, List.length_cons, List.length_nil, List.nil_append, List.cons_append, List.append_nil, List.replicate, Nat.reduceSub, Nat.reduceAdd, Nat.reduceLeDiff, wipeD, unw, freeAt, Option.getD_some, List.all_cons, List.all_nil, Bool.and_true, Bool.and_self, Slot.free, Nat.zero_sub, Nat.sub_zero, Nat.sub_self, Nat.reduceEqDiff, id_eq, decide_true, decide_false, eq_self, c__law_longest, c__law_next, c__law_subsets, c__law_take, c__law_tape, c_both_spoilt, c_least_reads, c_longest_unseen, c_next_read, c_staggered, c_takes_reads, T.x_InvalidPlan.ex]
    refine ⟨A, rfl, okA.n, p60, ?_⟩
    try simp -dsimp only [↓s_var, ↓s_c, ↓s_op, ↓s_test, ↓s_truth, ↓s_chain, ↓s_and, ↓s_or, ↓s_not, ↓s_andV, ↓s_orV, ↓s_notV, ↓s_if, ↓s_un, ↓s_nil, ↓s_cons, ↓s_cb, ↓s_call, ↓s_tup, ↓s_lst, ↓s_nopart, ↓s_part, ↓s_sl, ↓s_app, ↓s_items, ↓s_rng1, ↓s_rng2, ↓s_rng3, ↓s_next, ↓s_seq, ↓s_break, ↓s_cont, ↓s_drop, ↓s_ret, ↓s_retN, ↓s_ifS, ↓s_asg, ↓s_gNm, ↓s_gTup, ↓s_gNil, ↓s_gCons, ↓s_aug, ↓s_par, ↓s_for, ↓s_while, ↓s_lc, ↓s_lc2, ↓s_yes, ↓s_tvs0, ↓s_tvs1, ↓s_tvV, ↓s_tvS, ↓s_rvV, ↓s_rvS, ↓s_enum, ↓s_zip, ↓s_callIO, ↓fin_t, pins_nil, pins_p, pins_v, pins_un, lent1, slotL_s, ↓putB_1, ↓s_setI, ↓s_dput, ↓s_daug, ↓s_dnew, ↓s_disp, ↓s_flat0, ↓s_flat1, ↓s_never, ↓s_raise, ↓s_neverE, mkD, D.key, Option.map_some, dgetM, ↓br_t, ↓br_f, ↓s_fin0, ↓s_ref, ↓s_tupRg, ↓s_lstRg, ↓s_rg1, ↓s_rg2, hide, hideS, s_resV, s_resS, s_resL0, s_resL1, s_slotM, s_setM, s_frz, s_frzL, wD_some, got_v, got_p, ↓gset_un, ↓gset_v, vslot_v, fslot_v, asB_b, asI_i, asT_t, asL_l, hasL_l, one_1, two_2, int1_1, int2_2, int3_3, ix0, ix1, Slot.fr?, Slot.m?, Slot.put, opz_f1, o_iop, b_lt, o_addI, o_addS, o_addT, o_addL, o_mulI, o_mulT, o_mulL, o_ixL, o_ixT, o_ixW, o_ixC, o_ixS, o_slL, o_slT, o_slS, o_lenL, o_lenT, o_lenW, o_lenC, o_lenD, o_lenS, o_abs, o_intI, o_intB, o_str, o_list, o_tupL, o_tupT, o_isN, o_isNotN, o_isTy, o_neg, t_non, t_bl, t_int, t_str, t_lst, t_tup, t_wtu, t_dic, i_lst, i_tup, i_wtu, i_scr, i_str, q_lst, q_scr, q_tup, q_wtu, o_sort, o_inL, o_inT, o_eqI, o_neI, o_all, o_any, o_sum, o_max2, o_min2, o_eqB, o_neB, o_ixD, o_ixDi, p_str, p_int, s_frzD, hasD_md, small_md, D.seqs, D.tyN, List.getElem?_cons_zero, List.getElem?_cons_succ, List.set_cons_zero, List.set_cons_succ, List.map_cons, List.map_nil, Option.bind_some, Option.map_some, true_and, and_true, and_assoc, startD, Bool.not_true, Bool.not_false, List.length_cons, List.length_nil, List.nil_append, List.cons_append, List.append_nil, List.replicate, Nat.reduceSub, Nat.reduceAdd, Nat.reduceLeDiff, wipeD, unw, freeAt, Option.getD_some, List.all_cons, List.all_nil, Bool.and_true, Bool.and_self, Slot.free, Nat.zero_sub, Nat.sub_zero, Nat.sub_self, Nat.reduceEqDiff, id_eq, decide_true, decide_false, eq_self, c__law_longest, c__law_next, c__law_subsets, c__law_take, c__law_tape, c_both_spoilt, c_least_reads, c_longest_unseen, c_next_read, c_staggered, c_takes_reads, T.x_InvalidPlan.ex]
    exact hN _ ⟨_, _, _, _, rfl, hT, rfl, rfl, fun _ => rfl⟩
  rintro s ⟨tp, a, b, c, rfl, hT, ha, hc, hk⟩
  obtain rfl : a = kS 5 := hk (by decide)
  clear hk ha
  unfold kS
  simp -dsimp only [↓s_var, ↓s_c, ↓s_op, ↓s_test, ↓s_truth, ↓s_chain, ↓s_and, ↓s_or, ↓s_not, ↓s_andV, ↓s_orV, ↓s_notV, ↓s_if, ↓s_un, ↓s_nil, ↓s_cons, ↓s_cb, ↓s_call, ↓s_tup, ↓s_lst, ↓s_nopart, ↓s_part, ↓s_sl, ↓s_app, ↓s_items, ↓s_rng1, ↓s_rng2, ↓s_rng3, ↓s_next, ↓s_seq, ↓s_break, ↓s_cont, ↓s_drop, ↓s_ret, ↓s_retN, ↓s_ifS, ↓s_asg, ↓s_gNm, ↓s_gTup, ↓s_gNil, ↓s_gCons, ↓s_aug, ↓s_par, ↓s_for, ↓s_while, ↓s_lc, ↓s_lc2, ↓s_yes, ↓s_tvs0, ↓s_tvs1, ↓s_tvV, ↓s_tvS, ↓s_rvV, ↓s_rvS, ↓s_enum, ↓s_zip, ↓s_callIO, ↓fin_t, pins_nil, pins_p, pins_v, pins_un, lent1, slotL_s, ↓putB_1, ↓s_setI, ↓s_dput, ↓s_daug, ↓s_dnew, ↓s_disp, ↓s_flat0, ↓s_flat1, ↓s_never, ↓s_raise, ↓s_neverE, mkD, D.key, Option.map_some, dgetM, ↓br_t, ↓br_f, ↓s_fin0, ↓s_ref, ↓s_tupRg, ↓s_lstRg, ↓s_rg1, ↓s_rg2, hide, hideS, s_resV, s_resS, s_resL0, s_resL1, s_slotM, s_setM, s_frz, s_frzL, wD_some, got_v, got_p, ↓gset_un, ↓gset_v, vslot_v, fslot_v, asB_b, asI_i, asT_t, asL_l, hasL_l, one_1, two_2, int1_1, int2_2, int3_3, ix0, ix1, Slot.fr?, Slot.m?, Slot.put, opz_f1, o_iop, b_lt, o_addI, o_addS, o_addT, o_addL, o_mulI, o_mulT, o_mulL, o_ixL, o_ixT, o_ixW, o_ixC, o_ixS, o_slL, o_slT, o_slS, o_lenL, o_lenT, o_lenW, o_lenC, o_lenD, o_lenS, o_abs, o_intI, o_intB, o_str, o_list, o_tupL, o_tupT, o_isN, o_isNotN, o_isTy, o_neg, t_non, t_bl, t_int, t_str, t_lst, t_tup, t_wtu, t_dic, i_lst, i_tup, i_wtu, i_scr, i_str, q_lst, q_scr, q_tup, q_wtu, o_sort, o_inL, o_inT, o_eqI, o_neI, o_all, o_any, o_sum, o_max2, o_min2, o_eqB, o_neB, o_ixD, o_ixDi, p_str, p_int, s_frzD, hasD_md, small_md, D.seqs, D.tyN, List.getElem?_cons_zero, List.getElem?_cons_succ, List.set_cons_zero, List.set_cons_succ, List.map_cons, List.map_nil, Option.bind_some, Option.map_some, true_and, and_true, and_assoc, startD, Bool.not_true, Bool.not_false, List.length_cons, List.length_nil, List.nil_append, List.cons_append, List.append_nil, List.replicate, Nat.reduceSub, Nat.reduceAdd, Nat.reduceLeDiff, wipeD, unw, freeAt, Option.getD_some, List.all_cons, List.all_nil, Bool.and_true, Bool.and_self, Slot.free, Nat.zero_sub, Nat.sub_zero, Nat.sub_self, Nat.reduceEqDiff, id_eq, decide_true, decide_false, eq_self, c__law_longest, c__law_next, c__law_subsets, c__law_take, c__law_tape, c_both_spoilt, c_least_reads, c_longest_unseen, c_next_read, c_staggered, c_takes_reads, T.x_InvalidPlan.ex,  tupI]
  refine ⟨A, rfl, okA.n, p60, ?_⟩
  try simp -dsimp only [↓s_var, ↓s_c, ↓s_op, ↓s_test, ↓s_truth, ↓s_chain, ↓s_and, ↓s_or, ↓s_not, ↓s_andV, ↓s_orV, ↓s_notV, ↓s_if, ↓s_un, ↓s_nil, ↓s_cons, ↓s_cb, ↓s_call, ↓s_tup, ↓s_lst, ↓s_nopart, ↓s_part, ↓s_sl, ↓s_app, ↓s_items, ↓s_rng1, ↓s_rng2, ↓s_rng3, ↓s_next, ↓s_seq, ↓s_break, ↓s_cont, ↓s_drop, ↓s_ret, ↓s_retN, ↓s_ifS, ↓s_asg, ↓s_gNm, ↓s_gTup, ↓s_gNil, ↓s_gCons, ↓s_aug, ↓s_par, ↓s_for, ↓s_while, ↓s_lc, ↓s_lc2, ↓s_yes, ↓s_tvs0, ↓s_tvs1, ↓s_tvV, ↓s_tvS, ↓s_rvV, ↓s_rvS, ↓s_enum, ↓s_zip, ↓s_callIO, ↓fin_t, pins_nil, pins_p, pins_v, pins_un, lent1, slotL_s, ↓putB_1, ↓s_setI, ↓s_dput, ↓s_daug, ↓s_dnew, ↓s_disp, ↓s_flat0, ↓s_flat1, ↓s_never, ↓s_raise, ↓s_neverE, mkD, D.key, Option.map_some, dgetM, ↓br_t, ↓br_f, ↓s_fin0, ↓s_ref, ↓s_tupRg, ↓s_lstRg, ↓s_rg1, ↓s_rg2, hide, hideS, s_resV, s_resS, s_resL0, s_resL1, s_slotM, s_setM, s_frz, s_frzL, wD_some, got_v, got_p, ↓gset_un, ↓gset_v, vslot_v, fslot_v, asB_b, asI_i, asT_t, asL_l, hasL_l, one_1, two_2, int1_1, int2_2, int3_3, ix0, ix1, Slot.fr?, Slot.m?, Slot.put, opz_f1, o_iop, b_lt, o_addI, o_addS, o_addT, o_addL, o_mulI, o_mulT, o_mulL, o_ixL, o_ixT, o_ixW, o_ixC, o_ixS, o_slL, o_slT, o_slS, o_lenL, o_lenT, o_lenW, o_lenC, o_lenD, o_lenS, o_abs, o_intI, o_intB, o_str, o_list, o_tupL, o_tupT, o_isN, o_isNotN, o_isTy, o_neg, t_non, t_bl, t_int, t_str, t_lst, t_tup, t_wtu, t_dic, i_lst, i_tup, i_wtu, i_scr, i_str, q_lst, q_scr, q_tup, q_wtu, o_sort, o_inL, o_inT, o_eqI, o_neI, o_all, o_any, o_sum, o_max2, o_min2, o_eqB, o_neB, o_ixD, o_ixDi, p_str, p_int, s_frzD, hasD_md, small_md, D.seqs, D.tyN, List.getElem?_cons_zero, List.getElem?_cons_succ, List.set_cons_zero, List.set_cons_succ, List.map_cons, List.map_nil, Option.bind_some, Option.map_some, true_and, and_true, and_assoc, startD, Bool.not_true, Bool.not_false, List.length_cons, List.length_nil, List.nil_append, List.cons_append, List.append_nil, List.replicate, Nat.reduceSub, Nat.reduceAdd, Nat.reduceLeDiff, wipeD, unw, freeAt, Option.getD_some, List.all_cons, List.all_nil, Bool.and_true, Bool.and_self, Slot.free, Nat.zero_sub, Nat.sub_zero, Nat.sub_self, Nat.reduceEqDiff, id_eq, decide_true, decide_false, eq_self, c__law_longest, c__law_next, c__law_subsets, c__law_take, c__law_tape, c_both_spoilt, c_least_reads, c_longest_unseen, c_next_read, c_staggered, c_takes_reads, T.x_InvalidPlan.ex]
  refine ⟨hT, by omega, by omega, fun L tp L0 L1 hT => ?_⟩
  try simp -dsimp only [↓s_var, ↓s_c, ↓s_op, ↓s_test, ↓s_truth, ↓s_chain, ↓s_and, ↓s_or, ↓s_not, ↓s_andV, ↓s_orV, ↓s_notV, ↓s_if, ↓s_un, ↓s_nil, ↓s_cons, ↓s_cb, ↓s_call, ↓s_tup, ↓s_lst, ↓s_nopart, ↓s_part, ↓s_sl, ↓s_app, ↓s_items, ↓s_rng1, ↓s_rng2, ↓s_rng3, ↓s_next, ↓s_seq, ↓s_break, ↓s_cont, ↓s_drop, ↓s_ret, ↓s_retN, ↓s_ifS, ↓s_asg, ↓s_gNm, ↓s_gTup, ↓s_gNil, ↓s_gCons, ↓s_aug, ↓s_par, ↓s_for, ↓s_while, ↓s_lc, ↓s_lc2, ↓s_yes, ↓s_tvs0, ↓s_tvs1, ↓s_tvV, ↓s_tvS, ↓s_rvV, ↓s_rvS, ↓s_enum, ↓s_zip, ↓s_callIO, ↓fin_t, pins_nil, pins_p, pins_v, pins_un, lent1, slotL_s, ↓putB_1, ↓s_setI, ↓s_dput, ↓s_daug, ↓s_dnew, ↓s_disp, ↓s_flat0, ↓s_flat1, ↓s_never, ↓s_raise, ↓s_neverE, mkD, D.key, Option.map_some, dgetM, ↓br_t, ↓br_f, ↓s_fin0, ↓s_ref, ↓s_tupRg, ↓s_lstRg, ↓s_rg1, ↓s_rg2, hide, hideS, s_resV, s_resS, s_resL0, s_resL1, s_slotM, s_setM, s_frz, s_frzL, wD_some, got_v, got_p, ↓gset_un, ↓gset_v, vslot_v, fslot_v, asB_b, asI_i, asT_t, asL_l, hasL_l, one_1, two_2, int1_1, int2_2, int3_3, ix0, ix1, Slot.fr?, Slot.m?, Slot.put, opz_f1, o_iop, b_lt, o_addI, o_addS, o_addT, o_addL, o_mulI, o_mulT, o_mulL, o_ixL, o_ixT, o_ixW, o_ixC, o_ixS, o_slL, o_slT, o_slS, o_lenL, o_lenT, o_lenW, o_lenC, o_lenD, o_lenS, o_abs, o_intI, o_intB, o_str, o_list, o_tupL, o_tupT, o_isN, o_isNotN, o_isTy, o_neg, t_non, t_bl, t_int, t_str, t_lst, t_tup, t_wtu, t_dic, i_lst, i_tup, i_wtu, i_scr, i_str, q_lst, q_scr, q_tup, q_wtu, o_sort, o_inL, o_inT, o_eqI, o_neI, o_all, o_any, o_sum, o_max2, o_min2, o_eqB, o_neB, o_ixD, o_ixDi, p_str, p_int, s_frzD, hasD_md, small_md, D.seqs, D.tyN, List.getElem?_cons_zero, List.getElem?_cons_succ, List.set_cons_zero, List.set_cons_succ, List.map_cons, List.map_nil, Option.bind_some, Option.map_some, true_and, and_true, and_assoc, startD, Bool.not_true, Bool.not_false, List.length_cons, List.length_nil, List.nil_append, List.cons_append, List.append_nil, List.replicate, Nat.reduceSub, Nat.reduceAdd, Nat.reduceLeDiff, wipeD, unw, freeAt, Option.getD_some, List.all_cons, List.all_nil, Bool.and_true, Bool.and_self, Slot.free, Nat.zero_sub, Nat.sub_zero, Nat.sub_self, Nat.reduceEqDiff, id_eq, decide_true, decide_false, eq_self, c__law_longest, c__law_next, c__law_subsets, c__law_take, c__law_tape, c_both_spoilt, c_least_reads, c_longest_unseen, c_next_read, c_staggered, c_takes_reads, T.x_InvalidPlan.ex,  tupI]
  refine ⟨A, rfl, lenA, fun _ => ?_, fun h => absurd okA h⟩
  try simp -dsimp only [↓s_var, ↓s_c, ↓s_op, ↓s_test, ↓s_truth, ↓s_chain, ↓s_and, ↓s_or, ↓s_not, ↓s_andV, ↓s_orV, ↓s_notV, ↓s_if, ↓s_un, ↓s_nil, ↓s_cons, ↓s_cb, ↓s_call, ↓s_tup, ↓s_lst, ↓s_nopart, ↓s_part, ↓s_sl, ↓s_app, ↓s_items, ↓s_rng1, ↓s_rng2, ↓s_rng3, ↓s_next, ↓s_seq, ↓s_break, ↓s_cont, ↓s_drop, ↓s_ret, ↓s_retN, ↓s_ifS, ↓s_asg, ↓s_gNm, ↓s_gTup, ↓s_gNil, ↓s_gCons, ↓s_aug, ↓s_par, ↓s_for, ↓s_while, ↓s_lc, ↓s_lc2, ↓s_yes, ↓s_tvs0, ↓s_tvs1, ↓s_tvV, ↓s_tvS, ↓s_rvV, ↓s_rvS, ↓s_enum, ↓s_zip, ↓s_callIO, ↓fin_t, pins_nil, pins_p, pins_v, pins_un, lent1, slotL_s, ↓putB_1, ↓s_setI, ↓s_dput, ↓s_daug, ↓s_dnew, ↓s_disp, ↓s_flat0, ↓s_flat1, ↓s_never, ↓s_raise, ↓s_neverE, mkD, D.key, Option.map_some, dgetM, ↓br_t, ↓br_f, ↓s_fin0, ↓s_ref, ↓s_tupRg, ↓s_lstRg, ↓s_rg1, ↓s_rg2, hide, hideS, s_resV, s_resS, s_resL0, s_resL1, s_slotM, s_setM, s_frz, s_frzL, wD_some, got_v, got_p, ↓gset_un, ↓gset_v, vslot_v, fslot_v, asB_b, asI_i, asT_t, asL_l, hasL_l, one_1, two_2, int1_1, int2_2, int3_3, ix0, ix1, Slot.fr?, Slot.m?, Slot.put, opz_f1, o_iop, b_lt, o_addI, o_addS, o_addT, o_addL, o_mulI, o_mulT, o_mulL, o_ixL, o_ixT, o_ixW, o_ixC, o_ixS, o_slL, o_slT, o_slS, o_lenL, o_lenT, o_lenW, o_lenC, o_lenD, o_lenS, o_abs, o_intI, o_intB, o_str, o_list, o_tupL, o_tupT, o_isN, o_isNotN, o_isTy, o_neg, t_non, t_bl, t_int, t_str, t_lst, t_tup, t_wtu, t_dic, i_lst, i_tup, i_wtu, i_scr, i_str, q_lst, q_scr, q_tup, q_wtu, o_sort, o_inL, o_inT, o_eqI, o_neI, o_all, o_any, o_sum, o_max2, o_min2, o_eqB, o_neB, o_ixD, o_ixDi, p_str, p_int, s_frzD, hasD_md, small_md, D.seqs, D.tyN, List.getElem?_cons_zero, List.getElem?_cons_succ, List.set_cons_zero, List.set_cons_succ, List.map_cons, List.map_nil, Option.bind_some, Option.map_some, true_and, and_true, and_assoc, startD, Bool.not_true, Bool.not_false, List.length_cons, List.length_nil, List.nil_append, List.cons_append, List.append_nil, List.replicate, Nat.reduceSub, Nat.reduceAdd, Nat.reduceLeDiff, wipeD, unw, freeAt, Option.getD_some, List.all_cons, List.all_nil, Bool.and_true, Bool.and_self, Slot.free, Nat.zero_sub, Nat.sub_zero, Nat.sub_self, Nat.reduceEqDiff, id_eq, decide_true, decide_false, eq_self, c__law_longest, c__law_next, c__law_subsets, c__law_take, c__law_tape, c_both_spoilt, c_least_reads, c_longest_unseen, c_next_read, c_staggered, c_takes_reads, T.x_InvalidPlan.ex,  tupI]
  refine ⟨A, rfl, okA, ?_⟩
  try simp -dsimp only [↓s_var, ↓s_c, ↓s_op, ↓s_test, ↓s_truth, ↓s_chain, ↓s_and, ↓s_or, ↓s_not, ↓s_andV, ↓s_orV, ↓s_notV, ↓s_if, ↓s_un, ↓s_nil, ↓s_cons, ↓s_cb, ↓s_call, ↓s_tup, ↓s_lst, ↓s_nopart, ↓s_part, ↓s_sl, ↓s_app, ↓s_items, ↓s_rng1, ↓s_rng2, ↓s_rng3, ↓s_next, ↓s_seq, ↓s_break, ↓s_cont, ↓s_drop, ↓s_ret, ↓s_retN, ↓s_ifS, ↓s_asg, ↓s_gNm, ↓s_gTup, ↓s_gNil, ↓s_gCons, ↓s_aug, ↓s_par, ↓s_for, ↓s_while, ↓s_lc, ↓s_lc2, ↓s_yes, ↓s_tvs0, ↓s_tvs1, ↓s_tvV, ↓s_tvS, ↓s_rvV, ↓s_rvS, ↓s_enum, ↓s_zip, ↓s_callIO, ↓fin_t, pins_nil, pins_p, pins_v, pins_un, lent1, slotL_s, ↓putB_1, ↓s_setI, ↓s_dput, ↓s_daug, ↓s_dnew, ↓s_disp, ↓s_flat0, ↓s_flat1, ↓s_never, ↓s_raise, ↓s_neverE, mkD, D.key, Option.map_some, dgetM, ↓br_t, ↓br_f, ↓s_fin0, ↓s_ref, ↓s_tupRg, ↓s_lstRg, ↓s_rg1, ↓s_rg2, hide, hideS, s_resV, s_resS, s_resL0, s_resL1, s_slotM, s_setM, s_frz, s_frzL, wD_some, got_v, got_p, ↓gset_un, ↓gset_v, vslot_v, fslot_v, asB_b, asI_i, asT_t, asL_l, hasL_l, one_1, two_2, int1_1, int2_2, int3_3, ix0, ix1, Slot.fr?, Slot.m?, Slot.put, opz_f1, o_iop, b_lt, o_addI, o_addS, o_addT, o_addL, o_mulI, o_mulT, o_mulL, o_ixL, o_ixT, o_ixW, o_ixC, o_ixS, o_slL, o_slT, o_slS, o_lenL, o_lenT, o_lenW, o_lenC, o_lenD, o_lenS, o_abs, o_intI, o_intB, o_str, o_list, o_tupL, o_tupT, o_isN, o_isNotN, o_isTy, o_neg, t_non, t_bl, t_int, t_str, t_lst, t_tup, t_wtu, t_dic, i_lst, i_tup, i_wtu, i_scr, i_str, q_lst, q_scr, q_tup, q_wtu, o_sort, o_inL, o_inT, o_eqI, o_neI, o_all, o_any, o_sum, o_max2, o_min2, o_eqB, o_neB, o_ixD, o_ixDi, p_str, p_int, s_frzD, hasD_md, small_md, D.seqs, D.tyN, List.getElem?_cons_zero, List.getElem?_cons_succ, List.set_cons_zero, List.set_cons_succ, List.map_cons, List.map_nil, Option.bind_some, Option.map_some, true_and, and_true, and_assoc, startD, Bool.not_true, Bool.not_false, List.length_cons, List.length_nil, List.nil_append, List.cons_append, List.append_nil, List.replicate, Nat.reduceSub, Nat.reduceAdd, Nat.reduceLeDiff, wipeD, unw, freeAt, Option.getD_some, List.all_cons, List.all_nil, Bool.and_true, Bool.and_self, Slot.free, Nat.zero_sub, Nat.sub_zero, Nat.sub_self, Nat.reduceEqDiff, id_eq, decide_true, decide_false, eq_self, c__law_longest, c__law_next, c__law_subsets, c__law_take, c__law_tape, c_both_spoilt, c_least_reads, c_longest_unseen, c_next_read, c_staggered, c_takes_reads, T.x_InvalidPlan.ex]
  refine ⟨by decide, by omega, by omega, ?_⟩
  rw [rng_isq]
  generalize hk5 : DL.Slot.v (M.fz (D.int (0 + ((4 : Nat) : Int)))) = k5
  refine for_ofE (fun i s => ∃ (d e f : DL.Slot), s = [.v (.fz (.scr ns)), .v tp, .v (.fz (.int p)), .v (.ml [tupI A, tupI C]), k5, .v (.fz (.int (lg p A))), .v (.fz (.int L)), .v (.fz (t3 (((isq 0 p.toNat).take i).foldl (brow (nx p A) (nx p C) p) (0, 0, 0)))), d, .un, .un, .un, .un, .un, .un, .un, .un, b, c, e, f, .un] ∧ d.pinned = false ∧ e.pinned = false ∧ f.pinned = false) ⟨_, _, _, rfl, rfl, rfl, rfl⟩ ?_ ?_
  · rintro i x s hx ⟨d, e, f, rfl, hd, he, hf⟩ N B R hN - -
    obtain ⟨hi, rfl⟩ := isq_get hx
    rw [fold_take hx] at hN
    generalize ((isq 0 p.toNat).take i).foldl (brow (nx p A) (nx p C) p) (0, 0, 0) = b0 at hN ⊢
    simp -dsimp only [↓s_var, ↓s_c, ↓s_op, ↓s_test, ↓s_truth, ↓s_chain, ↓s_and, ↓s_or, ↓s_not, ↓s_andV, ↓s_orV, ↓s_notV, ↓s_if, ↓s_un, ↓s_nil, ↓s_cons, ↓s_cb, ↓s_call, ↓s_tup, ↓s_lst, ↓s_nopart, ↓s_part, ↓s_sl, ↓s_app, ↓s_items, ↓s_rng1, ↓s_rng2, ↓s_rng3, ↓s_next, ↓s_seq, ↓s_break, ↓s_cont, ↓s_drop, ↓s_ret, ↓s_retN, ↓s_ifS, ↓s_asg, ↓s_gNm, ↓s_gTup, ↓s_gNil, ↓s_gCons, ↓s_aug, ↓s_par, ↓s_for, ↓s_while, ↓s_lc, ↓s_lc2, ↓s_yes, ↓s_tvs0, ↓s_tvs1, ↓s_tvV, ↓s_tvS, ↓s_rvV, ↓s_rvS, ↓s_enum, ↓s_zip, ↓s_callIO, ↓fin_t, pins_nil, pins_p, pins_v, pins_un, lent1, slotL_s, ↓putB_1, ↓s_setI, ↓s_dput, ↓s_daug, ↓s_dnew, ↓s_disp, ↓s_flat0, ↓s_flat1, ↓s_never, ↓s_raise, ↓s_neverE, mkD, D.key, Option.map_some, dgetM, ↓br_t, ↓br_f, ↓s_fin0, ↓s_ref, ↓s_tupRg, ↓s_lstRg, ↓s_rg1, ↓s_rg2, hide, hideS, s_resV, s_resS, s_resL0, s_resL1, s_slotM, s_setM, s_frz, s_frzL, wD_some, got_v, got_p, ↓gset_un, ↓gset_v, vslot_v, fslot_v, asB_b, asI_i, asT_t, asL_l, hasL_l, one_1, two_2, int1_1, int2_2, int3_3, ix0, ix1, Slot.fr?, Slot.m?, Slot.put, opz_f1, o_iop, b_lt, o_addI, o_addS, o_addT, o_addL, o_mulI, o_mulT, o_mulL, o_ixL, o_ixT, o_ixW, o_ixC, o_ixS, o_slL, o_slT, o_slS, o_lenL, o_lenT, o_lenW, o_lenC, o_lenD, o_lenS, o_abs, o_intI, o_intB, o_str, o_list, o_tupL, o_tupT, o_isN, o_isNotN, o_isTy, o_neg, t_non, t_bl, t_int, t_str, t_lst, t_tup, t_wtu, t_dic, i_lst, i_tup, i_wtu, i_scr, i_str, q_lst, q_scr, q_tup, q_wtu, o_sort, o_inL, o_inT, o_eqI, o_neI, o_all, o_any, o_sum, o_max2, o_min2, o_eqB, o_neB, o_ixD, o_ixDi, p_str, p_int, s_frzD, hasD_md, small_md, D.seqs, D.tyN, List.getElem?_cons_zero, List.getElem?_cons_succ, List.set_cons_zero, List.set_cons_succ, List.map_cons, List.map_nil, Option.bind_some, Option.map_some, true_and, and_true, and_assoc, startD, Bool.not_true, Bool.not_false, List.length_cons, List.length_nil, List.nil_append, List.cons_append, List.append_nil, List.replicate, Nat.reduceSub, Nat.reduceAdd, Nat.reduceLeDiff, wipeD, unw, freeAt, Option.getD_some, List.all_cons, List.all_nil, Bool.and_true, Bool.and_self, Slot.free, Nat.zero_sub, Nat.sub_zero, Nat.sub_self, Nat.reduceEqDiff, id_eq, decide_true, decide_false, eq_self, c__law_longest, c__law_next, c__law_subsets, c__law_take, c__law_tape, c_both_spoilt, c_least_reads, c_longest_unseen, c_next_read, c_staggered, c_takes_reads, T.x_InvalidPlan.ex,  gset_free hd]
    refine ⟨by omega, by omega, by omega, by omega, ?_⟩
    rw [rng_isq, show (0 + (i : Int) + p - (0 + (i : Int) - p + 1)).toNat = (2 * p - 1).toNat by omega]
    unfold brow at hN
    generalize hx0 : 0 + (i : Int) = x at *
    refine for_ofE (fun j s => ∃ (e f : DL.Slot), s = [.v (.fz (.scr ns)), .v tp, .v (.fz (.int p)), .v (.ml [tupI A, tupI C]), k5, .v (.fz (.int (lg p A))), .v (.fz (.int L)), .v (.fz (t3 (((isq (x - p + 1) (2 * p - 1).toNat).take j).foldl (fun b y => bstep (nx p A) (nx p C) b x y) b0))), .v (.fz (.int x)), .un, .un, .un, .un, .un, .un, .un, .un, b, c, e, f, .un] ∧ e.pinned = false ∧ f.pinned = false) ⟨_, _, rfl, he, hf⟩ ?_ ?_
    · rintro j y s hy ⟨e, f, rfl, he, hf⟩ N B R hN - -
      rw [fold_take hy] at hN
      generalize ((isq (x - p + 1) (2 * p - 1).toNat).take j).foldl (fun b y => bstep (nx p A) (nx p C) b x y) b0 = b1 at hN ⊢
      simp -dsimp only [↓s_var, ↓s_c, ↓s_op, ↓s_test, ↓s_truth, ↓s_chain, ↓s_and, ↓s_or, ↓s_not, ↓s_andV, ↓s_orV, ↓s_notV, ↓s_if, ↓s_un, ↓s_nil, ↓s_cons, ↓s_cb, ↓s_call, ↓s_tup, ↓s_lst, ↓s_nopart, ↓s_part, ↓s_sl, ↓s_app, ↓s_items, ↓s_rng1, ↓s_rng2, ↓s_rng3, ↓s_next, ↓s_seq, ↓s_break, ↓s_cont, ↓s_drop, ↓s_ret, ↓s_retN, ↓s_ifS, ↓s_asg, ↓s_gNm, ↓s_gTup, ↓s_gNil, ↓s_gCons, ↓s_aug, ↓s_par, ↓s_for, ↓s_while, ↓s_lc, ↓s_lc2, ↓s_yes, ↓s_tvs0, ↓s_tvs1, ↓s_tvV, ↓s_tvS, ↓s_rvV, ↓s_rvS, ↓s_enum, ↓s_zip, ↓s_callIO, ↓fin_t, pins_nil, pins_p, pins_v, pins_un, lent1, slotL_s, ↓putB_1, ↓s_setI, ↓s_dput, ↓s_daug, ↓s_dnew, ↓s_disp, ↓s_flat0, ↓s_flat1, ↓s_never, ↓s_raise, ↓s_neverE, mkD, D.key, Option.map_some, dgetM, ↓br_t, ↓br_f, ↓s_fin0, ↓s_ref, ↓s_tupRg, ↓s_lstRg, ↓s_rg1, ↓s_rg2, hide, hideS, s_resV, s_resS, s_resL0, s_resL1, s_slotM, s_setM, s_frz, s_frzL, wD_some, got_v, got_p, ↓gset_un, ↓gset_v, vslot_v, fslot_v, asB_b, asI_i, asT_t, asL_l, hasL_l, one_1, two_2, int1_1, int2_2, int3_3, ix0, ix1, Slot.fr?, Slot.m?, Slot.put, opz_f1, o_iop, b_lt, o_addI, o_addS, o_addT, o_addL, o_mulI, o_mulT, o_mulL, o_ixL, o_ixT, o_ixW, o_ixC, o_ixS, o_slL, o_slT, o_slS, o_lenL, o_lenT, o_lenW, o_lenC, o_lenD, o_lenS, o_abs, o_intI, o_intB, o_str, o_list, o_tupL, o_tupT, o_isN, o_isNotN, o_isTy, o_neg, t_non, t_bl, t_int, t_str, t_lst, t_tup, t_wtu, t_dic, i_lst, i_tup, i_wtu, i_scr, i_str, q_lst, q_scr, q_tup, q_wtu, o_sort, o_inL, o_inT, o_eqI, o_neI, o_all, o_any, o_sum, o_max2, o_min2, o_eqB, o_neB, o_ixD, o_ixDi, p_str, p_int, s_frzD, hasD_md, small_md, D.seqs, D.tyN, List.getElem?_cons_zero, List.getElem?_cons_succ, List.set_cons_zero, List.set_cons_succ, List.map_cons, List.map_nil, Option.bind_some, Option.map_some, true_and, and_true, and_assoc, startD, Bool.not_true, Bool.not_false, List.length_cons, List.length_nil, List.nil_append, List.cons_append, List.append_nil, List.replicate, Nat.reduceSub, Nat.reduceAdd, Nat.reduceLeDiff, wipeD, unw, freeAt, Option.getD_some, List.all_cons, List.all_nil, Bool.and_true, Bool.and_self, Slot.free, Nat.zero_sub, Nat.sub_zero, Nat.sub_self, Nat.reduceEqDiff, id_eq, decide_true, decide_false, eq_self, c__law_longest, c__law_next, c__law_subsets, c__law_take, c__law_tape, c_both_spoilt, c_least_reads, c_longest_unseen, c_next_read, c_staggered, c_takes_reads, T.x_InvalidPlan.ex,  gset_free he, gset_free hf, tupI]
      refine ⟨A, rfl, okA.n, p60, ?_⟩
      try simp -dsimp only [↓s_var, ↓s_c, ↓s_op, ↓s_test, ↓s_truth, ↓s_chain, ↓s_and, ↓s_or, ↓s_not, ↓s_andV, ↓s_orV, ↓s_notV, ↓s_if, ↓s_un, ↓s_nil, ↓s_cons, ↓s_cb, ↓s_call, ↓s_tup, ↓s_lst, ↓s_nopart, ↓s_part, ↓s_sl, ↓s_app, ↓s_items, ↓s_rng1, ↓s_rng2, ↓s_rng3, ↓s_next, ↓s_seq, ↓s_break, ↓s_cont, ↓s_drop, ↓s_ret, ↓s_retN, ↓s_ifS, ↓s_asg, ↓s_gNm, ↓s_gTup, ↓s_gNil, ↓s_gCons, ↓s_aug, ↓s_par, ↓s_for, ↓s_while, ↓s_lc, ↓s_lc2, ↓s_yes, ↓s_tvs0, ↓s_tvs1, ↓s_tvV, ↓s_tvS, ↓s_rvV, ↓s_rvS, ↓s_enum, ↓s_zip, ↓s_callIO, ↓fin_t, pins_nil, pins_p, pins_v, pins_un, lent1, slotL_s, ↓putB_1, ↓s_setI, ↓s_dput, ↓s_daug, ↓s_dnew, ↓s_disp, ↓s_flat0, ↓s_flat1, ↓s_never, ↓s_raise, ↓s_neverE, mkD, D.key, Option.map_some, dgetM, ↓br_t, ↓br_f, ↓s_fin0, ↓s_ref, ↓s_tupRg, ↓s_lstRg, ↓s_rg1, ↓s_rg2, hide, hideS, s_resV, s_resS, s_resL0, s_resL1, s_slotM, s_setM, s_frz, s_frzL, wD_some, got_v, got_p, ↓gset_un, ↓gset_v, vslot_v, fslot_v, asB_b, asI_i, asT_t, asL_l, hasL_l, one_1, two_2, int1_1, int2_2, int3_3, ix0, ix1, Slot.fr?, Slot.m?, Slot.put, opz_f1, o_iop, b_lt, o_addI, o_addS, o_addT, o_addL, o_mulI, o_mulT, o_mulL, o_ixL, o_ixT, o_ixW, o_ixC, o_ixS, o_slL, o_slT, o_slS, o_lenL, o_lenT, o_lenW, o_lenC, o_lenD, o_lenS, o_abs, o_intI, o_intB, o_str, o_list, o_tupL, o_tupT, o_isN, o_isNotN, o_isTy, o_neg, t_non, t_bl, t_int, t_str, t_lst, t_tup, t_wtu, t_dic, i_lst, i_tup, i_wtu, i_scr, i_str, q_lst, q_scr, q_tup, q_wtu, o_sort, o_inL, o_inT, o_eqI, o_neI, o_all, o_any, o_sum, o_max2, o_min2, o_eqB, o_neB, o_ixD, o_ixDi, p_str, p_int, s_frzD, hasD_md, small_md, D.seqs, D.tyN, List.getElem?_cons_zero, List.getElem?_cons_succ, List.set_cons_zero, List.set_cons_succ, List.map_cons, List.map_nil, Option.bind_some, Option.map_some, true_and, and_true, and_assoc, startD, Bool.not_true, Bool.not_false, List.length_cons, List.length_nil, List.nil_append, List.cons_append, List.append_nil, List.replicate, Nat.reduceSub, Nat.reduceAdd, Nat.reduceLeDiff, wipeD, unw, freeAt, Option.getD_some, List.all_cons, List.all_nil, Bool.and_true, Bool.and_self, Slot.free, Nat.zero_sub, Nat.sub_zero, Nat.sub_self, Nat.reduceEqDiff, id_eq, decide_true, decide_false, eq_self, c__law_longest, c__law_next, c__law_subsets, c__law_take, c__law_tape, c_both_spoilt, c_least_reads, c_longest_unseen, c_next_read, c_staggered, c_takes_reads, T.x_InvalidPlan.ex,  tupI]
      refine ⟨C, rfl, okC.n, p60, ?_⟩
      unfold t3
      simp -dsimp only [↓s_var, ↓s_c, ↓s_op, ↓s_test, ↓s_truth, ↓s_chain, ↓s_and, ↓s_or, ↓s_not, ↓s_andV, ↓s_orV, ↓s_notV, ↓s_if, ↓s_un, ↓s_nil, ↓s_cons, ↓s_cb, ↓s_call, ↓s_tup, ↓s_lst, ↓s_nopart, ↓s_part, ↓s_sl, ↓s_app, ↓s_items, ↓s_rng1, ↓s_rng2, ↓s_rng3, ↓s_next, ↓s_seq, ↓s_break, ↓s_cont, ↓s_drop, ↓s_ret, ↓s_retN, ↓s_ifS, ↓s_asg, ↓s_gNm, ↓s_gTup, ↓s_gNil, ↓s_gCons, ↓s_aug, ↓s_par, ↓s_for, ↓s_while, ↓s_lc, ↓s_lc2, ↓s_yes, ↓s_tvs0, ↓s_tvs1, ↓s_tvV, ↓s_tvS, ↓s_rvV, ↓s_rvS, ↓s_enum, ↓s_zip, ↓s_callIO, ↓fin_t, pins_nil, pins_p, pins_v, pins_un, lent1, slotL_s, ↓putB_1, ↓s_setI, ↓s_dput, ↓s_daug, ↓s_dnew, ↓s_disp, ↓s_flat0, ↓s_flat1, ↓s_never, ↓s_raise, ↓s_neverE, mkD, D.key, Option.map_some, dgetM, ↓br_t, ↓br_f, ↓s_fin0, ↓s_ref, ↓s_tupRg, ↓s_lstRg, ↓s_rg1, ↓s_rg2, hide, hideS, s_resV, s_resS, s_resL0, s_resL1, s_slotM, s_setM, s_frz, s_frzL, wD_some, got_v, got_p, ↓gset_un, ↓gset_v, vslot_v, fslot_v, asB_b, asI_i, asT_t, asL_l, hasL_l, one_1, two_2, int1_1, int2_2, int3_3, ix0, ix1, Slot.fr?, Slot.m?, Slot.put, opz_f1, o_iop, b_lt, o_addI, o_addS, o_addT, o_addL, o_mulI, o_mulT, o_mulL, o_ixL, o_ixT, o_ixW, o_ixC, o_ixS, o_slL, o_slT, o_slS, o_lenL, o_lenT, o_lenW, o_lenC, o_lenD, o_lenS, o_abs, o_intI, o_intB, o_str, o_list, o_tupL, o_tupT, o_isN, o_isNotN, o_isTy, o_neg, t_non, t_bl, t_int, t_str, t_lst, t_tup, t_wtu, t_dic, i_lst, i_tup, i_wtu, i_scr, i_str, q_lst, q_scr, q_tup, q_wtu, o_sort, o_inL, o_inT, o_eqI, o_neI, o_all, o_any, o_sum, o_max2, o_min2, o_eqB, o_neB, o_ixD, o_ixDi, p_str, p_int, s_frzD, hasD_md, small_md, D.seqs, D.tyN, List.getElem?_cons_zero, List.getElem?_cons_succ, List.set_cons_zero, List.set_cons_succ, List.map_cons, List.map_nil, Option.bind_some, Option.map_some, true_and, and_true, and_assoc, startD, Bool.not_true, Bool.not_false, List.length_cons, List.length_nil, List.nil_append, List.cons_append, List.append_nil, List.replicate, Nat.reduceSub, Nat.reduceAdd, Nat.reduceLeDiff, wipeD, unw, freeAt, Option.getD_some, List.all_cons, List.all_nil, Bool.and_true, Bool.and_self, Slot.free, Nat.zero_sub, Nat.sub_zero, Nat.sub_self, Nat.reduceEqDiff, id_eq, decide_true, decide_false, eq_self, c__law_longest, c__law_next, c__law_subsets, c__law_take, c__law_tape, c_both_spoilt, c_least_reads, c_longest_unseen, c_next_read, c_staggered, c_takes_reads, T.x_InvalidPlan.ex,  gset_free hf]
      unfold bstep at hN
      simp only [min_if, max_if]
      refine br_dec (fun h => ?_) (fun h => ?_)
      · simp -dsimp only [↓s_var, ↓s_c, ↓s_op, ↓s_test, ↓s_truth, ↓s_chain, ↓s_and, ↓s_or, ↓s_not, ↓s_andV, ↓s_orV, ↓s_notV, ↓s_if, ↓s_un, ↓s_nil, ↓s_cons, ↓s_cb, ↓s_call, ↓s_tup, ↓s_lst, ↓s_nopart, ↓s_part, ↓s_sl, ↓s_app, ↓s_items, ↓s_rng1, ↓s_rng2, ↓s_rng3, ↓s_next, ↓s_seq, ↓s_break, ↓s_cont, ↓s_drop, ↓s_ret, ↓s_retN, ↓s_ifS, ↓s_asg, ↓s_gNm, ↓s_gTup, ↓s_gNil, ↓s_gCons, ↓s_aug, ↓s_par, ↓s_for, ↓s_while, ↓s_lc, ↓s_lc2, ↓s_yes, ↓s_tvs0, ↓s_tvs1, ↓s_tvV, ↓s_tvS, ↓s_rvV, ↓s_rvS, ↓s_enum, ↓s_zip, ↓s_callIO, ↓fin_t, pins_nil, pins_p, pins_v, pins_un, lent1, slotL_s, ↓putB_1, ↓s_setI, ↓s_dput, ↓s_daug, ↓s_dnew, ↓s_disp, ↓s_flat0, ↓s_flat1, ↓s_never, ↓s_raise, ↓s_neverE, mkD, D.key, Option.map_some, dgetM, ↓br_t, ↓br_f, ↓s_fin0, ↓s_ref, ↓s_tupRg, ↓s_lstRg, ↓s_rg1, ↓s_rg2, hide, hideS, s_resV, s_resS, s_resL0, s_resL1, s_slotM, s_setM, s_frz, s_frzL, wD_some, got_v, got_p, ↓gset_un, ↓gset_v, vslot_v, fslot_v, asB_b, asI_i, asT_t, asL_l, hasL_l, one_1, two_2, int1_1, int2_2, int3_3, ix0, ix1, Slot.fr?, Slot.m?, Slot.put, opz_f1, o_iop, b_lt, o_addI, o_addS, o_addT, o_addL, o_mulI, o_mulT, o_mulL, o_ixL, o_ixT, o_ixW, o_ixC, o_ixS, o_slL, o_slT, o_slS, o_lenL, o_lenT, o_lenW, o_lenC, o_lenD, o_lenS, o_abs, o_intI, o_intB, o_str, o_list, o_tupL, o_tupT, o_isN, o_isNotN, o_isTy, o_neg, t_non, t_bl, t_int, t_str, t_lst, t_tup, t_wtu, t_dic, i_lst, i_tup, i_wtu, i_scr, i_str, q_lst, q_scr, q_tup, q_wtu, o_sort, o_inL, o_inT, o_eqI, o_neI, o_all, o_any, o_sum, o_max2, o_min2, o_eqB, o_neB, o_ixD, o_ixDi, p_str, p_int, s_frzD, hasD_md, small_md, D.seqs, D.tyN, List.getElem?_cons_zero, List.getElem?_cons_succ, List.set_cons_zero, List.set_cons_succ, List.map_cons, List.map_nil, Option.bind_some, Option.map_some, true_and, and_true, and_assoc, startD, Bool.not_true, Bool.not_false, List.length_cons, List.length_nil, List.nil_append, List.cons_append, List.append_nil, List.replicate, Nat.reduceSub, Nat.reduceAdd, Nat.reduceLeDiff, wipeD, unw, freeAt, Option.getD_some, List.all_cons, List.all_nil, Bool.and_true, Bool.and_self, Slot.free, Nat.zero_sub, Nat.sub_zero, Nat.sub_self, Nat.reduceEqDiff, id_eq, decide_true, decide_false, eq_self, c__law_longest, c__law_next, c__law_subsets, c__law_take, c__law_tape, c_both_spoilt, c_least_reads, c_longest_unseen, c_next_read, c_staggered, c_takes_reads, T.x_InvalidPlan.ex,  min_if, max_if]
        rw [if_pos h] at hN
        exact ⟨by decide, hN _ ⟨_, _, rfl, rfl, rfl⟩⟩
      · simp -dsimp only [↓s_var, ↓s_c, ↓s_op, ↓s_test, ↓s_truth, ↓s_chain, ↓s_and, ↓s_or, ↓s_not, ↓s_andV, ↓s_orV, ↓s_notV, ↓s_if, ↓s_un, ↓s_nil, ↓s_cons, ↓s_cb, ↓s_call, ↓s_tup, ↓s_lst, ↓s_nopart, ↓s_part, ↓s_sl, ↓s_app, ↓s_items, ↓s_rng1, ↓s_rng2, ↓s_rng3, ↓s_next, ↓s_seq, ↓s_break, ↓s_cont, ↓s_drop, ↓s_ret, ↓s_retN, ↓s_ifS, ↓s_asg, ↓s_gNm, ↓s_gTup, ↓s_gNil, ↓s_gCons, ↓s_aug, ↓s_par, ↓s_for, ↓s_while, ↓s_lc, ↓s_lc2, ↓s_yes, ↓s_tvs0, ↓s_tvs1, ↓s_tvV, ↓s_tvS, ↓s_rvV, ↓s_rvS, ↓s_enum, ↓s_zip, ↓s_callIO, ↓fin_t, pins_nil, pins_p, pins_v, pins_un, lent1, slotL_s, ↓putB_1, ↓s_setI, ↓s_dput, ↓s_daug, ↓s_dnew, ↓s_disp, ↓s_flat0, ↓s_flat1, ↓s_never, ↓s_raise, ↓s_neverE, mkD, D.key, Option.map_some, dgetM, ↓br_t, ↓br_f, ↓s_fin0, ↓s_ref, ↓s_tupRg, ↓s_lstRg, ↓s_rg1, ↓s_rg2, hide, hideS, s_resV, s_resS, s_resL0, s_resL1, s_slotM, s_setM, s_frz, s_frzL, wD_some, got_v, got_p, ↓gset_un, ↓gset_v, vslot_v, fslot_v, asB_b, asI_i, asT_t, asL_l, hasL_l, one_1, two_2, int1_1, int2_2, int3_3, ix0, ix1, Slot.fr?, Slot.m?, Slot.put, opz_f1, o_iop, b_lt, o_addI, o_addS, o_addT, o_addL, o_mulI, o_mulT, o_mulL, o_ixL, o_ixT, o_ixW, o_ixC, o_ixS, o_slL, o_slT, o_slS, o_lenL, o_lenT, o_lenW, o_lenC, o_lenD, o_lenS, o_abs, o_intI, o_intB, o_str, o_list, o_tupL, o_tupT, o_isN, o_isNotN, o_isTy, o_neg, t_non, t_bl, t_int, t_str, t_lst, t_tup, t_wtu, t_dic, i_lst, i_tup, i_wtu, i_scr, i_str, q_lst, q_scr, q_tup, q_wtu, o_sort, o_inL, o_inT, o_eqI, o_neI, o_all, o_any, o_sum, o_max2, o_min2, o_eqB, o_neB, o_ixD, o_ixDi, p_str, p_int, s_frzD, hasD_md, small_md, D.seqs, D.tyN, List.getElem?_cons_zero, List.getElem?_cons_succ, List.set_cons_zero, List.set_cons_succ, List.map_cons, List.map_nil, Option.bind_some, Option.map_some, true_and, and_true, and_assoc, startD, Bool.not_true, Bool.not_false, List.length_cons, List.length_nil, List.nil_append, List.cons_append, List.append_nil, List.replicate, Nat.reduceSub, Nat.reduceAdd, Nat.reduceLeDiff, wipeD, unw, freeAt, Option.getD_some, List.all_cons, List.all_nil, Bool.and_true, Bool.and_self, Slot.free, Nat.zero_sub, Nat.sub_zero, Nat.sub_self, Nat.reduceEqDiff, id_eq, decide_true, decide_false, eq_self, c__law_longest, c__law_next, c__law_subsets, c__law_take, c__law_tape, c_both_spoilt, c_least_reads, c_longest_unseen, c_next_read, c_staggered, c_takes_reads, T.x_InvalidPlan.ex]
        rw [if_neg h] at hN
        exact hN _ ⟨_, _, rfl, rfl, rfl⟩
    · rintro s ⟨e, f, rfl, he, hf⟩
      rw [List.take_length]
      exact hN _ ⟨_, _, _, rfl, rfl, he, hf⟩
  rintro s ⟨d, e, f, rfl, hd, he, hf⟩
  rw [List.take_length]
  simp -dsimp only [↓s_var, ↓s_c, ↓s_op, ↓s_test, ↓s_truth, ↓s_chain, ↓s_and, ↓s_or, ↓s_not, ↓s_andV, ↓s_orV, ↓s_notV, ↓s_if, ↓s_un, ↓s_nil, ↓s_cons, ↓s_cb, ↓s_call, ↓s_tup, ↓s_lst, ↓s_nopart, ↓s_part, ↓s_sl, ↓s_app, ↓s_items, ↓s_rng1, ↓s_rng2, ↓s_rng3, ↓s_next, ↓s_seq, ↓s_break, ↓s_cont, ↓s_drop, ↓s_ret, ↓s_retN, ↓s_ifS, ↓s_asg, ↓s_gNm, ↓s_gTup, ↓s_gNil, ↓s_gCons, ↓s_aug, ↓s_par, ↓s_for, ↓s_while, ↓s_lc, ↓s_lc2, ↓s_yes, ↓s_tvs0, ↓s_tvs1, ↓s_tvV, ↓s_tvS, ↓s_rvV, ↓s_rvS, ↓s_enum, ↓s_zip, ↓s_callIO, ↓fin_t, pins_nil, pins_p, pins_v, pins_un, lent1, slotL_s, ↓putB_1, ↓s_setI, ↓s_dput, ↓s_daug, ↓s_dnew, ↓s_disp, ↓s_flat0, ↓s_flat1, ↓s_never, ↓s_raise, ↓s_neverE, mkD, D.key, Option.map_some, dgetM, ↓br_t, ↓br_f, ↓s_fin0, ↓s_ref, ↓s_tupRg, ↓s_lstRg, ↓s_rg1, ↓s_rg2, hide, hideS, s_resV, s_resS, s_resL0, s_resL1, s_slotM, s_setM, s_frz, s_frzL, wD_some, got_v, got_p, ↓gset_un, ↓gset_v, vslot_v, fslot_v, asB_b, asI_i, asT_t, asL_l, hasL_l, one_1, two_2, int1_1, int2_2, int3_3, ix0, ix1, Slot.fr?, Slot.m?, Slot.put, opz_f1, o_iop, b_lt, o_addI, o_addS, o_addT, o_addL, o_mulI, o_mulT, o_mulL, o_ixL, o_ixT, o_ixW, o_ixC, o_ixS, o_slL, o_slT, o_slS, o_lenL, o_lenT, o_lenW, o_lenC, o_lenD, o_lenS, o_abs, o_intI, o_intB, o_str, o_list, o_tupL, o_tupT, o_isN, o_isNotN, o_isTy, o_neg, t_non, t_bl, t_int, t_str, t_lst, t_tup, t_wtu, t_dic, i_lst, i_tup, i_wtu, i_scr, i_str, q_lst, q_scr, q_tup, q_wtu, o_sort, o_inL, o_inT, o_eqI, o_neI, o_all, o_any, o_sum, o_max2, o_min2, o_eqB, o_neB, o_ixD, o_ixDi, p_str, p_int, s_frzD, hasD_md, small_md, D.seqs, D.tyN, List.getElem?_cons_zero, List.getElem?_cons_succ, List.set_cons_zero, List.set_cons_succ, List.map_cons, List.map_nil, Option.bind_some, Option.map_some, true_and, and_true, and_assoc, startD, Bool.not_true, Bool.not_false, List.length_cons, List.length_nil, List.nil_append, List.cons_append, List.append_nil, List.replicate, Nat.reduceSub, Nat.reduceAdd, Nat.reduceLeDiff, wipeD, unw, freeAt, Option.getD_some, List.all_cons, List.all_nil, Bool.and_true, Bool.and_self, Slot.free, Nat.zero_sub, Nat.sub_zero, Nat.sub_self, Nat.reduceEqDiff, id_eq, decide_true, decide_false, eq_self, c__law_longest, c__law_next, c__law_subsets, c__law_take, c__law_tape, c_both_spoilt, c_least_reads, c_longest_unseen, c_next_read, c_staggered, c_takes_reads, T.x_InvalidPlan.ex,  tupI]
  refine ⟨A, C, rfl, rfl, okA, okC, ?_⟩
  try simp -dsimp only [↓s_var, ↓s_c, ↓s_op, ↓s_test, ↓s_truth, ↓s_chain, ↓s_and, ↓s_or, ↓s_not, ↓s_andV, ↓s_orV, ↓s_notV, ↓s_if, ↓s_un, ↓s_nil, ↓s_cons, ↓s_cb, ↓s_call, ↓s_tup, ↓s_lst, ↓s_nopart, ↓s_part, ↓s_sl, ↓s_app, ↓s_items, ↓s_rng1, ↓s_rng2, ↓s_rng3, ↓s_next, ↓s_seq, ↓s_break, ↓s_cont, ↓s_drop, ↓s_ret, ↓s_retN, ↓s_ifS, ↓s_asg, ↓s_gNm, ↓s_gTup, ↓s_gNil, ↓s_gCons, ↓s_aug, ↓s_par, ↓s_for, ↓s_while, ↓s_lc, ↓s_lc2, ↓s_yes, ↓s_tvs0, ↓s_tvs1, ↓s_tvV, ↓s_tvS, ↓s_rvV, ↓s_rvS, ↓s_enum, ↓s_zip, ↓s_callIO, ↓fin_t, pins_nil, pins_p, pins_v, pins_un, lent1, slotL_s, ↓putB_1, ↓s_setI, ↓s_dput, ↓s_daug, ↓s_dnew, ↓s_disp, ↓s_flat0, ↓s_flat1, ↓s_never, ↓s_raise, ↓s_neverE, mkD, D.key, Option.map_some, dgetM, ↓br_t, ↓br_f, ↓s_fin0, ↓s_ref, ↓s_tupRg, ↓s_lstRg, ↓s_rg1, ↓s_rg2, hide, hideS, s_resV, s_resS, s_resL0, s_resL1, s_slotM, s_setM, s_frz, s_frzL, wD_some, got_v, got_p, ↓gset_un, ↓gset_v, vslot_v, fslot_v, asB_b, asI_i, asT_t, asL_l, hasL_l, one_1, two_2, int1_1, int2_2, int3_3, ix0, ix1, Slot.fr?, Slot.m?, Slot.put, opz_f1, o_iop, b_lt, o_addI, o_addS, o_addT, o_addL, o_mulI, o_mulT, o_mulL, o_ixL, o_ixT, o_ixW, o_ixC, o_ixS, o_slL, o_slT, o_slS, o_lenL, o_lenT, o_lenW, o_lenC, o_lenD, o_lenS, o_abs, o_intI, o_intB, o_str, o_list, o_tupL, o_tupT, o_isN, o_isNotN, o_isTy, o_neg, t_non, t_bl, t_int, t_str, t_lst, t_tup, t_wtu, t_dic, i_lst, i_tup, i_wtu, i_scr, i_str, q_lst, q_scr, q_tup, q_wtu, o_sort, o_inL, o_inT, o_eqI, o_neI, o_all, o_any, o_sum, o_max2, o_min2, o_eqB, o_neB, o_ixD, o_ixDi, p_str, p_int, s_frzD, hasD_md, small_md, D.seqs, D.tyN, List.getElem?_cons_zero, List.getElem?_cons_succ, List.set_cons_zero, List.set_cons_succ, List.map_cons, List.map_nil, Option.bind_some, Option.map_some, true_and, and_true, and_assoc, startD, Bool.not_true, Bool.not_false, List.length_cons, List.length_nil, List.nil_append, List.cons_append, List.append_nil, List.replicate, Nat.reduceSub, Nat.reduceAdd, Nat.reduceLeDiff, wipeD, unw, freeAt, Option.getD_some, List.all_cons, List.all_nil, Bool.and_true, Bool.and_self, Slot.free, Nat.zero_sub, Nat.sub_zero, Nat.sub_self, Nat.reduceEqDiff, id_eq, decide_true, decide_false, eq_self, c__law_longest, c__law_next, c__law_subsets, c__law_take, c__law_tape, c_both_spoilt, c_least_reads, c_longest_unseen, c_next_read, c_staggered, c_takes_reads, T.x_InvalidPlan.ex]
  have e3 : dNe (t3 (best3 p A C)) (t3 (best3 p A C)) (.fz (.bl false)) := by
    have := Enc.tupI.ne (by decide) [(best3 p A C).1, (best3 p A C).2.1, (best3 p A C).2.2] [(best3 p A C).1, (best3 p A C).2.1, (best3 p A C).2.2] trivial trivial
    rw [decide_eq_true rfl] at this
    exact this
  rw [show (isq 0 p.toNat).foldl (brow (nx p A) (nx p C) p) (0, 0, 0) = best3 p A C from rfl]
  refine opz_of e3 ?_
  generalize t3 (best3 p A C) = d7
  simp -dsimp only [↓s_var, ↓s_c, ↓s_op, ↓s_test, ↓s_truth, ↓s_chain, ↓s_and, ↓s_or, ↓s_not, ↓s_andV, ↓s_orV, ↓s_notV, ↓s_if, ↓s_un, ↓s_nil, ↓s_cons, ↓s_cb, ↓s_call, ↓s_tup, ↓s_lst, ↓s_nopart, ↓s_part, ↓s_sl, ↓s_app, ↓s_items, ↓s_rng1, ↓s_rng2, ↓s_rng3, ↓s_next, ↓s_break, ↓s_cont, ↓s_drop, ↓s_ret, ↓s_retN, ↓s_ifS, ↓s_asg, ↓s_gNm, ↓s_gTup, ↓s_gNil, ↓s_gCons, ↓s_aug, ↓s_par, ↓s_for, ↓s_while, ↓s_lc, ↓s_lc2, ↓s_yes, ↓s_tvs0, ↓s_tvs1, ↓s_tvV, ↓s_tvS, ↓s_rvV, ↓s_rvS, ↓s_enum, ↓s_zip, ↓s_callIO, ↓fin_t, pins_nil, pins_p, pins_v, pins_un, lent1, slotL_s, ↓putB_1, ↓s_setI, ↓s_dput, ↓s_daug, ↓s_dnew, ↓s_disp, ↓s_flat0, ↓s_flat1, ↓s_never, ↓s_raise, ↓s_neverE, mkD, D.key, Option.map_some, dgetM, ↓br_t, ↓br_f, ↓s_fin0, ↓s_ref, ↓s_tupRg, ↓s_lstRg, ↓s_rg1, ↓s_rg2, hide, hideS, s_resV, s_resS, s_resL0, s_resL1, s_slotM, s_setM, s_frz, s_frzL, wD_some, got_v, got_p, ↓gset_un, ↓gset_v, vslot_v, fslot_v, asB_b, asI_i, asT_t, asL_l, hasL_l, one_1, two_2, int1_1, int2_2, int3_3, ix0, ix1, Slot.fr?, Slot.m?, Slot.put, opz_f1, o_iop, b_lt, o_addI, o_addS, o_addT, o_addL, o_mulI, o_mulT, o_mulL, o_ixL, o_ixT, o_ixW, o_ixC, o_ixS, o_slL, o_slT, o_slS, o_lenL, o_lenT, o_lenW, o_lenC, o_lenD, o_lenS, o_abs, o_intI, o_intB, o_str, o_list, o_tupL, o_tupT, o_isN, o_isNotN, o_isTy, o_neg, t_non, t_bl, t_int, t_str, t_lst, t_tup, t_wtu, t_dic, i_lst, i_tup, i_wtu, i_scr, i_str, q_lst, q_scr, q_tup, q_wtu, o_sort, o_inL, o_inT, o_eqI, o_neI, o_all, o_any, o_sum, o_max2, o_min2, o_eqB, o_neB, o_ixD, o_ixDi, p_str, p_int, s_frzD, hasD_md, small_md, D.seqs, D.tyN, List.getElem?_cons_zero, List.getElem?_cons_succ, List.set_cons_zero, List.set_cons_succ, List.map_cons, List.map_nil, Option.bind_some, Option.map_some, true_and, and_true, and_assoc, startD, Bool.not_true, Bool.not_false, List.length_cons, List.length_nil, List.nil_append, List.cons_append, List.append_nil, List.replicate, Nat.reduceSub, Nat.reduceAdd, Nat.reduceLeDiff, wipeD, unw, freeAt, Option.getD_some, List.all_cons, List.all_nil, Bool.and_true, Bool.and_self, Slot.free, Nat.zero_sub, Nat.sub_zero, Nat.sub_self, Nat.reduceEqDiff, id_eq, decide_true, decide_false, eq_self, c__law_longest, c__law_next, c__law_subsets, c__law_take, c__law_tape, c_both_spoilt, c_least_reads, c_longest_unseen, c_next_read, c_staggered, c_takes_reads, T.x_InvalidPlan.ex]
  refine join (fun s => ∃ zs : List (List Int), s = [.v (.fz (.scr ns)), .v tp, .v (.fz (.int p)), .v (.ml [tupI A, tupI C]), k5, .v (.fz (.int (lg p A))), .v (.fz (.int L)), .v (.fz d7), d, .v (.ml (zs.map tupI)), .un, .un, .un, .un, .un, .un, .un, b, c, e, f, .un] ∧ (p ≤ 9 → zs.Perm (subsF (isq 0 p.toNat)) ∧ zs.Pairwise fun a b => leR a b = true) ∧ (¬ p ≤ 9 → zs = [])) ?_ ?_
  · intro N hN
    simp -dsimp only [↓s_var, ↓s_c, ↓s_op, ↓s_test, ↓s_truth, ↓s_chain, ↓s_and, ↓s_or, ↓s_not, ↓s_andV, ↓s_orV, ↓s_notV, ↓s_if, ↓s_un, ↓s_nil, ↓s_cons, ↓s_cb, ↓s_call, ↓s_tup, ↓s_lst, ↓s_nopart, ↓s_part, ↓s_sl, ↓s_app, ↓s_items, ↓s_rng1, ↓s_rng2, ↓s_rng3, ↓s_next, ↓s_seq, ↓s_break, ↓s_cont, ↓s_drop, ↓s_ret, ↓s_retN, ↓s_ifS, ↓s_asg, ↓s_gNm, ↓s_gTup, ↓s_gNil, ↓s_gCons, ↓s_aug, ↓s_par, ↓s_for, ↓s_while, ↓s_lc, ↓s_lc2, ↓s_yes, ↓s_tvs0, ↓s_tvs1, ↓s_tvV, ↓s_tvS, ↓s_rvV, ↓s_rvS, ↓s_enum, ↓s_zip, ↓s_callIO, ↓fin_t, pins_nil, pins_p, pins_v, pins_un, lent1, slotL_s, ↓putB_1, ↓s_setI, ↓s_dput, ↓s_daug, ↓s_dnew, ↓s_disp, ↓s_flat0, ↓s_flat1, ↓s_never, ↓s_raise, ↓s_neverE, mkD, D.key, Option.map_some, dgetM, ↓br_t, ↓br_f, ↓s_fin0, ↓s_ref, ↓s_tupRg, ↓s_lstRg, ↓s_rg1, ↓s_rg2, hide, hideS, s_resV, s_resS, s_resL0, s_resL1, s_slotM, s_setM, s_frz, s_frzL, wD_some, got_v, got_p, ↓gset_un, ↓gset_v, vslot_v, fslot_v, asB_b, asI_i, asT_t, asL_l, hasL_l, one_1, two_2, int1_1, int2_2, int3_3, ix0, ix1, Slot.fr?, Slot.m?, Slot.put, opz_f1, o_iop, b_lt, o_addI, o_addS, o_addT, o_addL, o_mulI, o_mulT, o_mulL, o_ixL, o_ixT, o_ixW, o_ixC, o_ixS, o_slL, o_slT, o_slS, o_lenL, o_lenT, o_lenW, o_lenC, o_lenD, o_lenS, o_abs, o_intI, o_intB, o_str, o_list, o_tupL, o_tupT, o_isN, o_isNotN, o_isTy, o_neg, t_non, t_bl, t_int, t_str, t_lst, t_tup, t_wtu, t_dic, i_lst, i_tup, i_wtu, i_scr, i_str, q_lst, q_scr, q_tup, q_wtu, o_sort, o_inL, o_inT, o_eqI, o_neI, o_all, o_any, o_sum, o_max2, o_min2, o_eqB, o_neB, o_ixD, o_ixDi, p_str, p_int, s_frzD, hasD_md, small_md, D.seqs, D.tyN, List.getElem?_cons_zero, List.getElem?_cons_succ, List.set_cons_zero, List.set_cons_succ, List.map_cons, List.map_nil, Option.bind_some, Option.map_some, true_and, and_true, and_assoc, startD, Bool.not_true, Bool.not_false, List.length_cons, List.length_nil, List.nil_append, List.cons_append, List.append_nil, List.replicate, Nat.reduceSub, Nat.reduceAdd, Nat.reduceLeDiff, wipeD, unw, freeAt, Option.getD_some, List.all_cons, List.all_nil, Bool.and_true, Bool.and_self, Slot.free, Nat.zero_sub, Nat.sub_zero, Nat.sub_self, Nat.reduceEqDiff, id_eq, decide_true, decide_false, eq_self, c__law_longest, c__law_next, c__law_subsets, c__law_take, c__law_tape, c_both_spoilt, c_least_reads, c_longest_unseen, c_next_read, c_staggered, c_takes_reads, T.x_InvalidPlan.ex]
    refine br_dec (fun h => ?_) (fun h => ?_)
    · simp -dsimp only [↓s_var, ↓s_c, ↓s_op, ↓s_test, ↓s_truth, ↓s_chain, ↓s_and, ↓s_or, ↓s_not, ↓s_andV, ↓s_orV, ↓s_notV, ↓s_if, ↓s_un, ↓s_nil, ↓s_cons, ↓s_cb, ↓s_call, ↓s_tup, ↓s_lst, ↓s_nopart, ↓s_part, ↓s_sl, ↓s_app, ↓s_items, ↓s_rng1, ↓s_rng2, ↓s_rng3, ↓s_next, ↓s_seq, ↓s_break, ↓s_cont, ↓s_drop, ↓s_ret, ↓s_retN, ↓s_ifS, ↓s_asg, ↓s_gNm, ↓s_gTup, ↓s_gNil, ↓s_gCons, ↓s_aug, ↓s_par, ↓s_for, ↓s_while, ↓s_lc, ↓s_lc2, ↓s_yes, ↓s_tvs0, ↓s_tvs1, ↓s_tvV, ↓s_tvS, ↓s_rvV, ↓s_rvS, ↓s_enum, ↓s_zip, ↓s_callIO, ↓fin_t, pins_nil, pins_p, pins_v, pins_un, lent1, slotL_s, ↓putB_1, ↓s_setI, ↓s_dput, ↓s_daug, ↓s_dnew, ↓s_disp, ↓s_flat0, ↓s_flat1, ↓s_never, ↓s_raise, ↓s_neverE, mkD, D.key, Option.map_some, dgetM, ↓br_t, ↓br_f, ↓s_fin0, ↓s_ref, ↓s_tupRg, ↓s_lstRg, ↓s_rg1, ↓s_rg2, hide, hideS, s_resV, s_resS, s_resL0, s_resL1, s_slotM, s_setM, s_frz, s_frzL, wD_some, got_v, got_p, ↓gset_un, ↓gset_v, vslot_v, fslot_v, asB_b, asI_i, asT_t, asL_l, hasL_l, one_1, two_2, int1_1, int2_2, int3_3, ix0, ix1, Slot.fr?, Slot.m?, Slot.put, opz_f1, o_iop, b_lt, o_addI, o_addS, o_addT, o_addL, o_mulI, o_mulT, o_mulL, o_ixL, o_ixT, o_ixW, o_ixC, o_ixS, o_slL, o_slT, o_slS, o_lenL, o_lenT, o_lenW, o_lenC, o_lenD, o_lenS, o_abs, o_intI, o_intB, o_str, o_list, o_tupL, o_tupT, o_isN, o_isNotN, o_isTy, o_neg, t_non, t_bl, t_int, t_str, t_lst, t_tup, t_wtu, t_dic, i_lst, i_tup, i_wtu, i_scr, i_str, q_lst, q_scr, q_tup, q_wtu, o_sort, o_inL, o_inT, o_eqI, o_neI, o_all, o_any, o_sum, o_max2, o_min2, o_eqB, o_neB, o_ixD, o_ixDi, p_str, p_int, s_frzD, hasD_md, small_md, D.seqs, D.tyN, List.getElem?_cons_zero, List.getElem?_cons_succ, List.set_cons_zero, List.set_cons_succ, List.map_cons, List.map_nil, Option.bind_some, Option.map_some, true_and, and_true, and_assoc, startD, Bool.not_true, Bool.not_false, List.length_cons, List.length_nil, List.nil_append, List.cons_append, List.append_nil, List.replicate, Nat.reduceSub, Nat.reduceAdd, Nat.reduceLeDiff, wipeD, unw, freeAt, Option.getD_some, List.all_cons, List.all_nil, Bool.and_true, Bool.and_self, Slot.free, Nat.zero_sub, Nat.sub_zero, Nat.sub_self, Nat.reduceEqDiff, id_eq, decide_true, decide_false, eq_self, c__law_longest, c__law_next, c__law_subsets, c__law_take, c__law_tape, c_both_spoilt, c_least_reads, c_longest_unseen, c_next_read, c_staggered, c_takes_reads, T.x_InvalidPlan.ex]
      refine ⟨⟨by omega, by omega, by omega, by omega, by omega⟩, isq 0 p.toNat, by rw [Int.sub_zero]; exact rng_isq, by rw [isq_len]; omega, fun zs h1 h2 => ?_⟩
      try simp -dsimp only [↓s_var, ↓s_c, ↓s_op, ↓s_test, ↓s_truth, ↓s_chain, ↓s_and, ↓s_or, ↓s_not, ↓s_andV, ↓s_orV, ↓s_notV, ↓s_if, ↓s_un, ↓s_nil, ↓s_cons, ↓s_cb, ↓s_call, ↓s_tup, ↓s_lst, ↓s_nopart, ↓s_part, ↓s_sl, ↓s_app, ↓s_items, ↓s_rng1, ↓s_rng2, ↓s_rng3, ↓s_next, ↓s_seq, ↓s_break, ↓s_cont, ↓s_drop, ↓s_ret, ↓s_retN, ↓s_ifS, ↓s_asg, ↓s_gNm, ↓s_gTup, ↓s_gNil, ↓s_gCons, ↓s_aug, ↓s_par, ↓s_for, ↓s_while, ↓s_lc, ↓s_lc2, ↓s_yes, ↓s_tvs0, ↓s_tvs1, ↓s_tvV, ↓s_tvS, ↓s_rvV, ↓s_rvS, ↓s_enum, ↓s_zip, ↓s_callIO, ↓fin_t, pins_nil, pins_p, pins_v, pins_un, lent1, slotL_s, ↓putB_1, ↓s_setI, ↓s_dput, ↓s_daug, ↓s_dnew, ↓s_disp, ↓s_flat0, ↓s_flat1, ↓s_never, ↓s_raise, ↓s_neverE, mkD, D.key, Option.map_some, dgetM, ↓br_t, ↓br_f, ↓s_fin0, ↓s_ref, ↓s_tupRg, ↓s_lstRg, ↓s_rg1, ↓s_rg2, hide, hideS, s_resV, s_resS, s_resL0, s_resL1, s_slotM, s_setM, s_frz, s_frzL, wD_some, got_v, got_p, ↓gset_un, ↓gset_v, vslot_v, fslot_v, asB_b, asI_i, asT_t, asL_l, hasL_l, one_1, two_2, int1_1, int2_2, int3_3, ix0, ix1, Slot.fr?, Slot.m?, Slot.put, opz_f1, o_iop, b_lt, o_addI, o_addS, o_addT, o_addL, o_mulI, o_mulT, o_mulL, o_ixL, o_ixT, o_ixW, o_ixC, o_ixS, o_slL, o_slT, o_slS, o_lenL, o_lenT, o_lenW, o_lenC, o_lenD, o_lenS, o_abs, o_intI, o_intB, o_str, o_list, o_tupL, o_tupT, o_isN, o_isNotN, o_isTy, o_neg, t_non, t_bl, t_int, t_str, t_lst, t_tup, t_wtu, t_dic, i_lst, i_tup, i_wtu, i_scr, i_str, q_lst, q_scr, q_tup, q_wtu, o_sort, o_inL, o_inT, o_eqI, o_neI, o_all, o_any, o_sum, o_max2, o_min2, o_eqB, o_neB, o_ixD, o_ixDi, p_str, p_int, s_frzD, hasD_md, small_md, D.seqs, D.tyN, List.getElem?_cons_zero, List.getElem?_cons_succ, List.set_cons_zero, List.set_cons_succ, List.map_cons, List.map_nil, Option.bind_some, Option.map_some, true_and, and_true, and_assoc, startD, Bool.not_true, Bool.not_false, List.length_cons, List.length_nil, List.nil_append, List.cons_append, List.append_nil, List.replicate, Nat.reduceSub, Nat.reduceAdd, Nat.reduceLeDiff, wipeD, unw, freeAt, Option.getD_some, List.all_cons, List.all_nil, Bool.and_true, Bool.and_self, Slot.free, Nat.zero_sub, Nat.sub_zero, Nat.sub_self, Nat.reduceEqDiff, id_eq, decide_true, decide_false, eq_self, c__law_longest, c__law_next, c__law_subsets, c__law_take, c__law_tape, c_both_spoilt, c_least_reads, c_longest_unseen, c_next_read, c_staggered, c_takes_reads, T.x_InvalidPlan.ex]
      exact hN _ ⟨zs, rfl, fun _ => ⟨h1, h2⟩, fun g => absurd h g⟩
    · simp -dsimp only [↓s_var, ↓s_c, ↓s_op, ↓s_test, ↓s_truth, ↓s_chain, ↓s_and, ↓s_or, ↓s_not, ↓s_andV, ↓s_orV, ↓s_notV, ↓s_if, ↓s_un, ↓s_nil, ↓s_cons, ↓s_cb, ↓s_call, ↓s_tup, ↓s_lst, ↓s_nopart, ↓s_part, ↓s_sl, ↓s_app, ↓s_items, ↓s_rng1, ↓s_rng2, ↓s_rng3, ↓s_next, ↓s_seq, ↓s_break, ↓s_cont, ↓s_drop, ↓s_ret, ↓s_retN, ↓s_ifS, ↓s_asg, ↓s_gNm, ↓s_gTup, ↓s_gNil, ↓s_gCons, ↓s_aug, ↓s_par, ↓s_for, ↓s_while, ↓s_lc, ↓s_lc2, ↓s_yes, ↓s_tvs0, ↓s_tvs1, ↓s_tvV, ↓s_tvS, ↓s_rvV, ↓s_rvS, ↓s_enum, ↓s_zip, ↓s_callIO, ↓fin_t, pins_nil, pins_p, pins_v, pins_un, lent1, slotL_s, ↓putB_1, ↓s_setI, ↓s_dput, ↓s_daug, ↓s_dnew, ↓s_disp, ↓s_flat0, ↓s_flat1, ↓s_never, ↓s_raise, ↓s_neverE, mkD, D.key, Option.map_some, dgetM, ↓br_t, ↓br_f, ↓s_fin0, ↓s_ref, ↓s_tupRg, ↓s_lstRg, ↓s_rg1, ↓s_rg2, hide, hideS, s_resV, s_resS, s_resL0, s_resL1, s_slotM, s_setM, s_frz, s_frzL, wD_some, got_v, got_p, ↓gset_un, ↓gset_v, vslot_v, fslot_v, asB_b, asI_i, asT_t, asL_l, hasL_l, one_1, two_2, int1_1, int2_2, int3_3, ix0, ix1, Slot.fr?, Slot.m?, Slot.put, opz_f1, o_iop, b_lt, o_addI, o_addS, o_addT, o_addL, o_mulI, o_mulT, o_mulL, o_ixL, o_ixT, o_ixW, o_ixC, o_ixS, o_slL, o_slT, o_slS, o_lenL, o_lenT, o_lenW, o_lenC, o_lenD, o_lenS, o_abs, o_intI, o_intB, o_str, o_list, o_tupL, o_tupT, o_isN, o_isNotN, o_isTy, o_neg, t_non, t_bl, t_int, t_str, t_lst, t_tup, t_wtu, t_dic, i_lst, i_tup, i_wtu, i_scr, i_str, q_lst, q_scr, q_tup, q_wtu, o_sort, o_inL, o_inT, o_eqI, o_neI, o_all, o_any, o_sum, o_max2, o_min2, o_eqB, o_neB, o_ixD, o_ixDi, p_str, p_int, s_frzD, hasD_md, small_md, D.seqs, D.tyN, List.getElem?_cons_zero, List.getElem?_cons_succ, List.set_cons_zero, List.set_cons_succ, List.map_cons, List.map_nil, Option.bind_some, Option.map_some, true_and, and_true, and_assoc, startD, Bool.not_true, Bool.not_false, List.length_cons, List.length_nil, List.nil_append, List.cons_append, List.append_nil, List.replicate, Nat.reduceSub, Nat.reduceAdd, Nat.reduceLeDiff, wipeD, unw, freeAt, Option.getD_some, List.all_cons, List.all_nil, Bool.and_true, Bool.and_self, Slot.free, Nat.zero_sub, Nat.sub_zero, Nat.sub_self, Nat.reduceEqDiff, id_eq, decide_true, decide_false, eq_self, c__law_longest, c__law_next, c__law_subsets, c__law_take, c__law_tape, c_both_spoilt, c_least_reads, c_longest_unseen, c_next_read, c_staggered, c_takes_reads, T.x_InvalidPlan.ex]
      exact ⟨by decide, hN _ ⟨[], rfl, fun g => absurd g h, fun _ => rfl⟩⟩
  rintro s ⟨zs, rfl, hz9, hz0⟩
  have hzn : ∀ y ∈ zs, (y ≠ [] → okN p y) ∧ y.length ≤ 9 := by
    intro y hy
    by_cases h : p ≤ 9
    · have hs := subsF_mem ((hz9 h).1.mem_iff.mp hy)
      refine ⟨fun hne => ⟨by omega, hne, fun n hn => by have := isq_mem.mp (hs.subset hn); omega⟩, ?_⟩
      have := hs.length_le
      rw [isq_len] at this
      omega
    · rw [hz0 h] at hy; cases hy
  have hzl : zs.length ≤ 512 := by
    by_cases h : p ≤ 9
    · rw [(hz9 h).1.length_eq, subsF_len, isq_len]
      exact Nat.pow_le_pow_right (by decide) (show p.toNat ≤ 9 by omega)
    · rw [hz0 h]; simp
  rw [s_seq]
  simp -dsimp only [↓s_var, ↓s_c, ↓s_op, ↓s_test, ↓s_truth, ↓s_chain, ↓s_and, ↓s_or, ↓s_not, ↓s_andV, ↓s_orV, ↓s_notV, ↓s_if, ↓s_un, ↓s_nil, ↓s_cons, ↓s_cb, ↓s_call, ↓s_tup, ↓s_lst, ↓s_nopart, ↓s_part, ↓s_sl, ↓s_app, ↓s_items, ↓s_rng1, ↓s_rng2, ↓s_rng3, ↓s_next, ↓s_break, ↓s_cont, ↓s_drop, ↓s_ret, ↓s_retN, ↓s_ifS, ↓s_asg, ↓s_gNm, ↓s_gTup, ↓s_gNil, ↓s_gCons, ↓s_aug, ↓s_par, ↓s_for, ↓s_while, ↓s_lc, ↓s_lc2, ↓s_yes, ↓s_tvs0, ↓s_tvs1, ↓s_tvV, ↓s_tvS, ↓s_rvV, ↓s_rvS, ↓s_enum, ↓s_zip, ↓s_callIO, ↓fin_t, pins_nil, pins_p, pins_v, pins_un, lent1, slotL_s, ↓putB_1, ↓s_setI, ↓s_dput, ↓s_daug, ↓s_dnew, ↓s_disp, ↓s_flat0, ↓s_flat1, ↓s_never, ↓s_raise, ↓s_neverE, mkD, D.key, Option.map_some, dgetM, ↓br_t, ↓br_f, ↓s_fin0, ↓s_ref, ↓s_tupRg, ↓s_lstRg, ↓s_rg1, ↓s_rg2, hide, hideS, s_resV, s_resS, s_resL0, s_resL1, s_slotM, s_setM, s_frz, s_frzL, wD_some, got_v, got_p, ↓gset_un, ↓gset_v, vslot_v, fslot_v, asB_b, asI_i, asT_t, asL_l, hasL_l, one_1, two_2, int1_1, int2_2, int3_3, ix0, ix1, Slot.fr?, Slot.m?, Slot.put, opz_f1, o_iop, b_lt, o_addI, o_addS, o_addT, o_addL, o_mulI, o_mulT, o_mulL, o_ixL, o_ixT, o_ixW, o_ixC, o_ixS, o_slL, o_slT, o_slS, o_lenL, o_lenT, o_lenW, o_lenC, o_lenD, o_lenS, o_abs, o_intI, o_intB, o_str, o_list, o_tupL, o_tupT, o_isN, o_isNotN, o_isTy, o_neg, t_non, t_bl, t_int, t_str, t_lst, t_tup, t_wtu, t_dic, i_lst, i_tup, i_wtu, i_scr, i_str, q_lst, q_scr, q_tup, q_wtu, o_sort, o_inL, o_inT, o_eqI, o_neI, o_all, o_any, o_sum, o_max2, o_min2, o_eqB, o_neB, o_ixD, o_ixDi, p_str, p_int, s_frzD, hasD_md, small_md, D.seqs, D.tyN, List.getElem?_cons_zero, List.getElem?_cons_succ, List.set_cons_zero, List.set_cons_succ, List.map_cons, List.map_nil, Option.bind_some, Option.map_some, true_and, and_true, and_assoc, startD, Bool.not_true, Bool.not_false, List.length_cons, List.length_nil, List.nil_append, List.cons_append, List.append_nil, List.replicate, Nat.reduceSub, Nat.reduceAdd, Nat.reduceLeDiff, wipeD, unw, freeAt, Option.getD_some, List.all_cons, List.all_nil, Bool.and_true, Bool.and_self, Slot.free, Nat.zero_sub, Nat.sub_zero, Nat.sub_self, Nat.reduceEqDiff, id_eq, decide_true, decide_false, eq_self, c__law_longest, c__law_next, c__law_subsets, c__law_take, c__law_tape, c_both_spoilt, c_least_reads, c_longest_unseen, c_next_read, c_staggered, c_takes_reads, T.x_InvalidPlan.ex]
  refine lcR_fmE (fun s => s = [.v (.fz (.scr ns)), .v tp, .v (.fz (.int p)), .v (.ml [tupI A, tupI C]), k5, .v (.fz (.int (lg p A))), .v (.fz (.int L)), .v (.fz d7), d, .v (.fz (.lst (zs.map tupI))), .un, .un, .un, .un, .un, .un, .un, b, c, e, f, .un]) (fun y => !y.isEmpty && decide (lg p y ≤ L)) tupI (by unfold sizeLine; omega) rfl ?_ ?_
  · rintro y hy s rfl R R' hR hR'
    have hn := hzn y hy
    unfold tupI
    simp -dsimp only [↓s_var, ↓s_c, ↓s_op, ↓s_test, ↓s_truth, ↓s_chain, ↓s_and, ↓s_or, ↓s_not, ↓s_andV, ↓s_orV, ↓s_notV, ↓s_if, ↓s_un, ↓s_nil, ↓s_cons, ↓s_cb, ↓s_call, ↓s_tup, ↓s_lst, ↓s_nopart, ↓s_part, ↓s_sl, ↓s_app, ↓s_items, ↓s_rng1, ↓s_rng2, ↓s_rng3, ↓s_next, ↓s_seq, ↓s_break, ↓s_cont, ↓s_drop, ↓s_ret, ↓s_retN, ↓s_ifS, ↓s_asg, ↓s_gNm, ↓s_gTup, ↓s_gNil, ↓s_gCons, ↓s_aug, ↓s_par, ↓s_for, ↓s_while, ↓s_lc, ↓s_lc2, ↓s_yes, ↓s_tvs0, ↓s_tvs1, ↓s_tvV, ↓s_tvS, ↓s_rvV, ↓s_rvS, ↓s_enum, ↓s_zip, ↓s_callIO, ↓fin_t, pins_nil, pins_p, pins_v, pins_un, lent1, slotL_s, ↓putB_1, ↓s_setI, ↓s_dput, ↓s_daug, ↓s_dnew, ↓s_disp, ↓s_flat0, ↓s_flat1, ↓s_never, ↓s_raise, ↓s_neverE, mkD, D.key, Option.map_some, dgetM, ↓br_t, ↓br_f, ↓s_fin0, ↓s_ref, ↓s_tupRg, ↓s_lstRg, ↓s_rg1, ↓s_rg2, hide, hideS, s_resV, s_resS, s_resL0, s_resL1, s_slotM, s_setM, s_frz, s_frzL, wD_some, got_v, got_p, ↓gset_un, ↓gset_v, vslot_v, fslot_v, asB_b, asI_i, asT_t, asL_l, hasL_l, one_1, two_2, int1_1, int2_2, int3_3, ix0, ix1, Slot.fr?, Slot.m?, Slot.put, opz_f1, o_iop, b_lt, o_addI, o_addS, o_addT, o_addL, o_mulI, o_mulT, o_mulL, o_ixL, o_ixT, o_ixW, o_ixC, o_ixS, o_slL, o_slT, o_slS, o_lenL, o_lenT, o_lenW, o_lenC, o_lenD, o_lenS, o_abs, o_intI, o_intB, o_str, o_list, o_tupL, o_tupT, o_isN, o_isNotN, o_isTy, o_neg, t_non, t_bl, t_int, t_str, t_lst, t_tup, t_wtu, t_dic, i_lst, i_tup, i_wtu, i_scr, i_str, q_lst, q_scr, q_tup, q_wtu, o_sort, o_inL, o_inT, o_eqI, o_neI, o_all, o_any, o_sum, o_max2, o_min2, o_eqB, o_neB, o_ixD, o_ixDi, p_str, p_int, s_frzD, hasD_md, small_md, D.seqs, D.tyN, List.getElem?_cons_zero, List.getElem?_cons_succ, List.set_cons_zero, List.set_cons_succ, List.map_cons, List.map_nil, Option.bind_some, Option.map_some, true_and, and_true, and_assoc, startD, Bool.not_true, Bool.not_false, List.length_cons, List.length_nil, List.nil_append, List.cons_append, List.append_nil, List.replicate, Nat.reduceSub, Nat.reduceAdd, Nat.reduceLeDiff, wipeD, unw, freeAt, Option.getD_some, List.all_cons, List.all_nil, Bool.and_true, Bool.and_self, Slot.free, Nat.zero_sub, Nat.sub_zero, Nat.sub_self, Nat.reduceEqDiff, id_eq, decide_true, decide_false, eq_self, c__law_longest, c__law_next, c__law_subsets, c__law_take, c__law_tape, c_both_spoilt, c_least_reads, c_longest_unseen, c_next_read, c_staggered, c_takes_reads, T.x_InvalidPlan.ex]
    refine br_dec (fun h => ?_) (fun h => ?_)
    · have hne : y ≠ [] := fun e => by subst e; simp at h
      simp -dsimp only [↓s_var, ↓s_c, ↓s_op, ↓s_test, ↓s_truth, ↓s_chain, ↓s_and, ↓s_or, ↓s_not, ↓s_andV, ↓s_orV, ↓s_notV, ↓s_if, ↓s_un, ↓s_nil, ↓s_cons, ↓s_cb, ↓s_call, ↓s_tup, ↓s_lst, ↓s_nopart, ↓s_part, ↓s_sl, ↓s_app, ↓s_items, ↓s_rng1, ↓s_rng2, ↓s_rng3, ↓s_next, ↓s_seq, ↓s_break, ↓s_cont, ↓s_drop, ↓s_ret, ↓s_retN, ↓s_ifS, ↓s_asg, ↓s_gNm, ↓s_gTup, ↓s_gNil, ↓s_gCons, ↓s_aug, ↓s_par, ↓s_for, ↓s_while, ↓s_lc, ↓s_lc2, ↓s_yes, ↓s_tvs0, ↓s_tvs1, ↓s_tvV, ↓s_tvS, ↓s_rvV, ↓s_rvS, ↓s_enum, ↓s_zip, ↓s_callIO, ↓fin_t, pins_nil, pins_p, pins_v, pins_un, lent1, slotL_s, ↓putB_1, ↓s_setI, ↓s_dput, ↓s_daug, ↓s_dnew, ↓s_disp, ↓s_flat0, ↓s_flat1, ↓s_never, ↓s_raise, ↓s_neverE, mkD, D.key, Option.map_some, dgetM, ↓br_t, ↓br_f, ↓s_fin0, ↓s_ref, ↓s_tupRg, ↓s_lstRg, ↓s_rg1, ↓s_rg2, hide, hideS, s_resV, s_resS, s_resL0, s_resL1, s_slotM, s_setM, s_frz, s_frzL, wD_some, got_v, got_p, ↓gset_un, ↓gset_v, vslot_v, fslot_v, asB_b, asI_i, asT_t, asL_l, hasL_l, one_1, two_2, int1_1, int2_2, int3_3, ix0, ix1, Slot.fr?, Slot.m?, Slot.put, opz_f1, o_iop, b_lt, o_addI, o_addS, o_addT, o_addL, o_mulI, o_mulT, o_mulL, o_ixL, o_ixT, o_ixW, o_ixC, o_ixS, o_slL, o_slT, o_slS, o_lenL, o_lenT, o_lenW, o_lenC, o_lenD, o_lenS, o_abs, o_intI, o_intB, o_str, o_list, o_tupL, o_tupT, o_isN, o_isNotN, o_isTy, o_neg, t_non, t_bl, t_int, t_str, t_lst, t_tup, t_wtu, t_dic, i_lst, i_tup, i_wtu, i_scr, i_str, q_lst, q_scr, q_tup, q_wtu, o_sort, o_inL, o_inT, o_eqI, o_neI, o_all, o_any, o_sum, o_max2, o_min2, o_eqB, o_neB, o_ixD, o_ixDi, p_str, p_int, s_frzD, hasD_md, small_md, D.seqs, D.tyN, List.getElem?_cons_zero, List.getElem?_cons_succ, List.set_cons_zero, List.set_cons_succ, List.map_cons, List.map_nil, Option.bind_some, Option.map_some, true_and, and_true, and_assoc, startD, Bool.not_true, Bool.not_false, List.length_cons, List.length_nil, List.nil_append, List.cons_append, List.append_nil, List.replicate, Nat.reduceSub, Nat.reduceAdd, Nat.reduceLeDiff, wipeD, unw, freeAt, Option.getD_some, List.all_cons, List.all_nil, Bool.and_true, Bool.and_self, Slot.free, Nat.zero_sub, Nat.sub_zero, Nat.sub_self, Nat.reduceEqDiff, id_eq, decide_true, decide_false, eq_self, c__law_longest, c__law_next, c__law_subsets, c__law_take, c__law_tape, c_both_spoilt, c_least_reads, c_longest_unseen, c_next_read, c_staggered, c_takes_reads, T.x_InvalidPlan.ex]
      refine ⟨y, rfl, hn.1 hne, p60, ?_⟩
      try simp -dsimp only [↓s_var, ↓s_c, ↓s_op, ↓s_test, ↓s_truth, ↓s_chain, ↓s_and, ↓s_or, ↓s_not, ↓s_andV, ↓s_orV, ↓s_notV, ↓s_if, ↓s_un, ↓s_nil, ↓s_cons, ↓s_cb, ↓s_call, ↓s_tup, ↓s_lst, ↓s_nopart, ↓s_part, ↓s_sl, ↓s_app, ↓s_items, ↓s_rng1, ↓s_rng2, ↓s_rng3, ↓s_next, ↓s_seq, ↓s_break, ↓s_cont, ↓s_drop, ↓s_ret, ↓s_retN, ↓s_ifS, ↓s_asg, ↓s_gNm, ↓s_gTup, ↓s_gNil, ↓s_gCons, ↓s_aug, ↓s_par, ↓s_for, ↓s_while, ↓s_lc, ↓s_lc2, ↓s_yes, ↓s_tvs0, ↓s_tvs1, ↓s_tvV, ↓s_tvS, ↓s_rvV, ↓s_rvS, ↓s_enum, ↓s_zip, ↓s_callIO, ↓fin_t, pins_nil, pins_p, pins_v, pins_un, lent1, slotL_s, ↓putB_1, ↓s_setI, ↓s_dput, ↓s_daug, ↓s_dnew, ↓s_disp, ↓s_flat0, ↓s_flat1, ↓s_never, ↓s_raise, ↓s_neverE, mkD, D.key, Option.map_some, dgetM, ↓br_t, ↓br_f, ↓s_fin0, ↓s_ref, ↓s_tupRg, ↓s_lstRg, ↓s_rg1, ↓s_rg2, hide, hideS, s_resV, s_resS, s_resL0, s_resL1, s_slotM, s_setM, s_frz, s_frzL, wD_some, got_v, got_p, ↓gset_un, ↓gset_v, vslot_v, fslot_v, asB_b, asI_i, asT_t, asL_l, hasL_l, one_1, two_2, int1_1, int2_2, int3_3, ix0, ix1, Slot.fr?, Slot.m?, Slot.put, opz_f1, o_iop, b_lt, o_addI, o_addS, o_addT, o_addL, o_mulI, o_mulT, o_mulL, o_ixL, o_ixT, o_ixW, o_ixC, o_ixS, o_slL, o_slT, o_slS, o_lenL, o_lenT, o_lenW, o_lenC, o_lenD, o_lenS, o_abs, o_intI, o_intB, o_str, o_list, o_tupL, o_tupT, o_isN, o_isNotN, o_isTy, o_neg, t_non, t_bl, t_int, t_str, t_lst, t_tup, t_wtu, t_dic, i_lst, i_tup, i_wtu, i_scr, i_str, q_lst, q_scr, q_tup, q_wtu, o_sort, o_inL, o_inT, o_eqI, o_neI, o_all, o_any, o_sum, o_max2, o_min2, o_eqB, o_neB, o_ixD, o_ixDi, p_str, p_int, s_frzD, hasD_md, small_md, D.seqs, D.tyN, List.getElem?_cons_zero, List.getElem?_cons_succ, List.set_cons_zero, List.set_cons_succ, List.map_cons, List.map_nil, Option.bind_some, Option.map_some, true_and, and_true, and_assoc, startD, Bool.not_true, Bool.not_false, List.length_cons, List.length_nil, List.nil_append, List.cons_append, List.append_nil, List.replicate, Nat.reduceSub, Nat.reduceAdd, Nat.reduceLeDiff, wipeD, unw, freeAt, Option.getD_some, List.all_cons, List.all_nil, Bool.and_true, Bool.and_self, Slot.free, Nat.zero_sub, Nat.sub_zero, Nat.sub_self, Nat.reduceEqDiff, id_eq, decide_true, decide_false, eq_self, c__law_longest, c__law_next, c__law_subsets, c__law_take, c__law_tape, c_both_spoilt, c_least_reads, c_longest_unseen, c_next_read, c_staggered, c_takes_reads, T.x_InvalidPlan.ex]
      have hem : y.isEmpty = false := by simpa using hne
      refine br_dec (fun h' => ?_) (fun h' => ?_)
      · simp -dsimp only [↓s_var, ↓s_c, ↓s_op, ↓s_test, ↓s_truth, ↓s_chain, ↓s_and, ↓s_or, ↓s_not, ↓s_andV, ↓s_orV, ↓s_notV, ↓s_if, ↓s_un, ↓s_nil, ↓s_cons, ↓s_cb, ↓s_call, ↓s_tup, ↓s_lst, ↓s_nopart, ↓s_part, ↓s_sl, ↓s_app, ↓s_items, ↓s_rng1, ↓s_rng2, ↓s_rng3, ↓s_next, ↓s_seq, ↓s_break, ↓s_cont, ↓s_drop, ↓s_ret, ↓s_retN, ↓s_ifS, ↓s_asg, ↓s_gNm, ↓s_gTup, ↓s_gNil, ↓s_gCons, ↓s_aug, ↓s_par, ↓s_for, ↓s_while, ↓s_lc, ↓s_lc2, ↓s_yes, ↓s_tvs0, ↓s_tvs1, ↓s_tvV, ↓s_tvS, ↓s_rvV, ↓s_rvS, ↓s_enum, ↓s_zip, ↓s_callIO, ↓fin_t, pins_nil, pins_p, pins_v, pins_un, lent1, slotL_s, ↓putB_1, ↓s_setI, ↓s_dput, ↓s_daug, ↓s_dnew, ↓s_disp, ↓s_flat0, ↓s_flat1, ↓s_never, ↓s_raise, ↓s_neverE, mkD, D.key, Option.map_some, dgetM, ↓br_t, ↓br_f, ↓s_fin0, ↓s_ref, ↓s_tupRg, ↓s_lstRg, ↓s_rg1, ↓s_rg2, hide, hideS, s_resV, s_resS, s_resL0, s_resL1, s_slotM, s_setM, s_frz, s_frzL, wD_some, got_v, got_p, ↓gset_un, ↓gset_v, vslot_v, fslot_v, asB_b, asI_i, asT_t, asL_l, hasL_l, one_1, two_2, int1_1, int2_2, int3_3, ix0, ix1, Slot.fr?, Slot.m?, Slot.put, opz_f1, o_iop, b_lt, o_addI, o_addS, o_addT, o_addL, o_mulI, o_mulT, o_mulL, o_ixL, o_ixT, o_ixW, o_ixC, o_ixS, o_slL, o_slT, o_slS, o_lenL, o_lenT, o_lenW, o_lenC, o_lenD, o_lenS, o_abs, o_intI, o_intB, o_str, o_list, o_tupL, o_tupT, o_isN, o_isNotN, o_isTy, o_neg, t_non, t_bl, t_int, t_str, t_lst, t_tup, t_wtu, t_dic, i_lst, i_tup, i_wtu, i_scr, i_str, q_lst, q_scr, q_tup, q_wtu, o_sort, o_inL, o_inT, o_eqI, o_neI, o_all, o_any, o_sum, o_max2, o_min2, o_eqB, o_neB, o_ixD, o_ixDi, p_str, p_int, s_frzD, hasD_md, small_md, D.seqs, D.tyN, List.getElem?_cons_zero, List.getElem?_cons_succ, List.set_cons_zero, List.set_cons_succ, List.map_cons, List.map_nil, Option.bind_some, Option.map_some, true_and, and_true, and_assoc, startD, Bool.not_true, Bool.not_false, List.length_cons, List.length_nil, List.nil_append, List.cons_append, List.append_nil, List.replicate, Nat.reduceSub, Nat.reduceAdd, Nat.reduceLeDiff, wipeD, unw, freeAt, Option.getD_some, List.all_cons, List.all_nil, Bool.and_true, Bool.and_self, Slot.free, Nat.zero_sub, Nat.sub_zero, Nat.sub_self, Nat.reduceEqDiff, id_eq, decide_true, decide_false, eq_self, c__law_longest, c__law_next, c__law_subsets, c__law_take, c__law_tape, c_both_spoilt, c_least_reads, c_longest_unseen, c_next_read, c_staggered, c_takes_reads, T.x_InvalidPlan.ex]
        exact hR _ _ (by simp [hem, h']) rfl rfl
      · simp -dsimp only [↓s_var, ↓s_c, ↓s_op, ↓s_test, ↓s_truth, ↓s_chain, ↓s_and, ↓s_or, ↓s_not, ↓s_andV, ↓s_orV, ↓s_notV, ↓s_if, ↓s_un, ↓s_nil, ↓s_cons, ↓s_cb, ↓s_call, ↓s_tup, ↓s_lst, ↓s_nopart, ↓s_part, ↓s_sl, ↓s_app, ↓s_items, ↓s_rng1, ↓s_rng2, ↓s_rng3, ↓s_next, ↓s_seq, ↓s_break, ↓s_cont, ↓s_drop, ↓s_ret, ↓s_retN, ↓s_ifS, ↓s_asg, ↓s_gNm, ↓s_gTup, ↓s_gNil, ↓s_gCons, ↓s_aug, ↓s_par, ↓s_for, ↓s_while, ↓s_lc, ↓s_lc2, ↓s_yes, ↓s_tvs0, ↓s_tvs1, ↓s_tvV, ↓s_tvS, ↓s_rvV, ↓s_rvS, ↓s_enum, ↓s_zip, ↓s_callIO, ↓fin_t, pins_nil, pins_p, pins_v, pins_un, lent1, slotL_s, ↓putB_1, ↓s_setI, ↓s_dput, ↓s_daug, ↓s_dnew, ↓s_disp, ↓s_flat0, ↓s_flat1, ↓s_never, ↓s_raise, ↓s_neverE, mkD, D.key, Option.map_some, dgetM, ↓br_t, ↓br_f, ↓s_fin0, ↓s_ref, ↓s_tupRg, ↓s_lstRg, ↓s_rg1, ↓s_rg2, hide, hideS, s_resV, s_resS, s_resL0, s_resL1, s_slotM, s_setM, s_frz, s_frzL, wD_some, got_v, got_p, ↓gset_un, ↓gset_v, vslot_v, fslot_v, asB_b, asI_i, asT_t, asL_l, hasL_l, one_1, two_2, int1_1, int2_2, int3_3, ix0, ix1, Slot.fr?, Slot.m?, Slot.put, opz_f1, o_iop, b_lt, o_addI, o_addS, o_addT, o_addL, o_mulI, o_mulT, o_mulL, o_ixL, o_ixT, o_ixW, o_ixC, o_ixS, o_slL, o_slT, o_slS, o_lenL, o_lenT, o_lenW, o_lenC, o_lenD, o_lenS, o_abs, o_intI, o_intB, o_str, o_list, o_tupL, o_tupT, o_isN, o_isNotN, o_isTy, o_neg, t_non, t_bl, t_int, t_str, t_lst, t_tup, t_wtu, t_dic, i_lst, i_tup, i_wtu, i_scr, i_str, q_lst, q_scr, q_tup, q_wtu, o_sort, o_inL, o_inT, o_eqI, o_neI, o_all, o_any, o_sum, o_max2, o_min2, o_eqB, o_neB, o_ixD, o_ixDi, p_str, p_int, s_frzD, hasD_md, small_md, D.seqs, D.tyN, List.getElem?_cons_zero, List.getElem?_cons_succ, List.set_cons_zero, List.set_cons_succ, List.map_cons, List.map_nil, Option.bind_some, Option.map_some, true_and, and_true, and_assoc, startD, Bool.not_true, Bool.not_false, List.length_cons, List.length_nil, List.nil_append, List.cons_append, List.append_nil, List.replicate, Nat.reduceSub, Nat.reduceAdd, Nat.reduceLeDiff, wipeD, unw, freeAt, Option.getD_some, List.all_cons, List.all_nil, Bool.and_true, Bool.and_self, Slot.free, Nat.zero_sub, Nat.sub_zero, Nat.sub_self, Nat.reduceEqDiff, id_eq, decide_true, decide_false, eq_self, c__law_longest, c__law_next, c__law_subsets, c__law_take, c__law_tape, c_both_spoilt, c_least_reads, c_longest_unseen, c_next_read, c_staggered, c_takes_reads, T.x_InvalidPlan.ex]
        exact hR' _ (by simp [h']) rfl
    · have hem : y.isEmpty = true := by
        cases y with
        | nil => rfl
        | cons a r => simp at h
      simp -dsimp only [↓s_var, ↓s_c, ↓s_op, ↓s_test, ↓s_truth, ↓s_chain, ↓s_and, ↓s_or, ↓s_not, ↓s_andV, ↓s_orV, ↓s_notV, ↓s_if, ↓s_un, ↓s_nil, ↓s_cons, ↓s_cb, ↓s_call, ↓s_tup, ↓s_lst, ↓s_nopart, ↓s_part, ↓s_sl, ↓s_app, ↓s_items, ↓s_rng1, ↓s_rng2, ↓s_rng3, ↓s_next, ↓s_seq, ↓s_break, ↓s_cont, ↓s_drop, ↓s_ret, ↓s_retN, ↓s_ifS, ↓s_asg, ↓s_gNm, ↓s_gTup, ↓s_gNil, ↓s_gCons, ↓s_aug, ↓s_par, ↓s_for, ↓s_while, ↓s_lc, ↓s_lc2, ↓s_yes, ↓s_tvs0, ↓s_tvs1, ↓s_tvV, ↓s_tvS, ↓s_rvV, ↓s_rvS, ↓s_enum, ↓s_zip, ↓s_callIO, ↓fin_t, pins_nil, pins_p, pins_v, pins_un, lent1, slotL_s, ↓putB_1, ↓s_setI, ↓s_dput, ↓s_daug, ↓s_dnew, ↓s_disp, ↓s_flat0, ↓s_flat1, ↓s_never, ↓s_raise, ↓s_neverE, mkD, D.key, Option.map_some, dgetM, ↓br_t, ↓br_f, ↓s_fin0, ↓s_ref, ↓s_tupRg, ↓s_lstRg, ↓s_rg1, ↓s_rg2, hide, hideS, s_resV, s_resS, s_resL0, s_resL1, s_slotM, s_setM, s_frz, s_frzL, wD_some, got_v, got_p, ↓gset_un, ↓gset_v, vslot_v, fslot_v, asB_b, asI_i, asT_t, asL_l, hasL_l, one_1, two_2, int1_1, int2_2, int3_3, ix0, ix1, Slot.fr?, Slot.m?, Slot.put, opz_f1, o_iop, b_lt, o_addI, o_addS, o_addT, o_addL, o_mulI, o_mulT, o_mulL, o_ixL, o_ixT, o_ixW, o_ixC, o_ixS, o_slL, o_slT, o_slS, o_lenL, o_lenT, o_lenW, o_lenC, o_lenD, o_lenS, o_abs, o_intI, o_intB, o_str, o_list, o_tupL, o_tupT, o_isN, o_isNotN, o_isTy, o_neg, t_non, t_bl, t_int, t_str, t_lst, t_tup, t_wtu, t_dic, i_lst, i_tup, i_wtu, i_scr, i_str, q_lst, q_scr, q_tup, q_wtu, o_sort, o_inL, o_inT, o_eqI, o_neI, o_all, o_any, o_sum, o_max2, o_min2, o_eqB, o_neB, o_ixD, o_ixDi, p_str, p_int, s_frzD, hasD_md, small_md, D.seqs, D.tyN, List.getElem?_cons_zero, List.getElem?_cons_succ, List.set_cons_zero, List.set_cons_succ, List.map_cons, List.map_nil, Option.bind_some, Option.map_some, true_and, and_true, and_assoc, startD, Bool.not_true, Bool.not_false, List.length_cons, List.length_nil, List.nil_append, List.cons_append, List.append_nil, List.replicate, Nat.reduceSub, Nat.reduceAdd, Nat.reduceLeDiff, wipeD, unw, freeAt, Option.getD_some, List.all_cons, List.all_nil, Bool.and_true, Bool.and_self, Slot.free, Nat.zero_sub, Nat.sub_zero, Nat.sub_self, Nat.reduceEqDiff, id_eq, decide_true, decide_false, eq_self, c__law_longest, c__law_next, c__law_subsets, c__law_take, c__law_tape, c_both_spoilt, c_least_reads, c_longest_unseen, c_next_read, c_staggered, c_takes_reads, T.x_InvalidPlan.ex]
      exact hR' _ (by simp [hem]) rfl
  rintro s' rfl
  -- what is known of the good ones
  have hG : (zs.filter fun y => !y.isEmpty && decide (lg p y ≤ L)) = [] ∨ ∃ rest, (zs.filter fun y => !y.isEmpty && decide (lg p y ≤ L)) = lr p L :: rest ∧ (lr p L).length ≤ 9 ∧ ((lr p L).length = 9 ↔ 8 < cdiv p (L + 1)) ∧ cdiv p (L + 1) ≤ 9 := by
    by_cases h : p ≤ 9
    · exact .inr (good_head ⟨hp1.1, h⟩ ⟨L0, L1⟩ (hz9 h).1 (hz9 h).2)
    · left; rw [hz0 h]; rfl
  generalize (zs.filter fun y => !y.isEmpty && decide (lg p y ≤ L)) = G at hG ⊢
  simp -dsimp only [↓s_var, ↓s_c, ↓s_op, ↓s_test, ↓s_truth, ↓s_chain, ↓s_and, ↓s_or, ↓s_not, ↓s_andV, ↓s_orV, ↓s_notV, ↓s_if, ↓s_un, ↓s_nil, ↓s_cons, ↓s_cb, ↓s_call, ↓s_tup, ↓s_lst, ↓s_nopart, ↓s_part, ↓s_sl, ↓s_app, ↓s_items, ↓s_rng1, ↓s_rng2, ↓s_rng3, ↓s_next, ↓s_break, ↓s_cont, ↓s_drop, ↓s_ret, ↓s_retN, ↓s_ifS, ↓s_asg, ↓s_gNm, ↓s_gTup, ↓s_gNil, ↓s_gCons, ↓s_aug, ↓s_par, ↓s_for, ↓s_while, ↓s_lc, ↓s_lc2, ↓s_yes, ↓s_tvs0, ↓s_tvs1, ↓s_tvV, ↓s_tvS, ↓s_rvV, ↓s_rvS, ↓s_enum, ↓s_zip, ↓s_callIO, ↓fin_t, pins_nil, pins_p, pins_v, pins_un, lent1, slotL_s, ↓putB_1, ↓s_setI, ↓s_dput, ↓s_daug, ↓s_dnew, ↓s_disp, ↓s_flat0, ↓s_flat1, ↓s_never, ↓s_raise, ↓s_neverE, mkD, D.key, Option.map_some, dgetM, ↓br_t, ↓br_f, ↓s_fin0, ↓s_ref, ↓s_tupRg, ↓s_lstRg, ↓s_rg1, ↓s_rg2, hide, hideS, s_resV, s_resS, s_resL0, s_resL1, s_slotM, s_setM, s_frz, s_frzL, wD_some, got_v, got_p, ↓gset_un, ↓gset_v, vslot_v, fslot_v, asB_b, asI_i, asT_t, asL_l, hasL_l, one_1, two_2, int1_1, int2_2, int3_3, ix0, ix1, Slot.fr?, Slot.m?, Slot.put, opz_f1, o_iop, b_lt, o_addI, o_addS, o_addT, o_addL, o_mulI, o_mulT, o_mulL, o_ixL, o_ixT, o_ixW, o_ixC, o_ixS, o_slL, o_slT, o_slS, o_lenL, o_lenT, o_lenW, o_lenC, o_lenD, o_lenS, o_abs, o_intI, o_intB, o_str, o_list, o_tupL, o_tupT, o_isN, o_isNotN, o_isTy, o_neg, t_non, t_bl, t_int, t_str, t_lst, t_tup, t_wtu, t_dic, i_lst, i_tup, i_wtu, i_scr, i_str, q_lst, q_scr, q_tup, q_wtu, o_sort, o_inL, o_inT, o_eqI, o_neI, o_all, o_any, o_sum, o_max2, o_min2, o_eqB, o_neB, o_ixD, o_ixDi, p_str, p_int, s_frzD, hasD_md, small_md, D.seqs, D.tyN, List.getElem?_cons_zero, List.getElem?_cons_succ, List.set_cons_zero, List.set_cons_succ, List.map_cons, List.map_nil, Option.bind_some, Option.map_some, true_and, and_true, and_assoc, startD, Bool.not_true, Bool.not_false, List.length_cons, List.length_nil, List.nil_append, List.cons_append, List.append_nil, List.replicate, Nat.reduceSub, Nat.reduceAdd, Nat.reduceLeDiff, wipeD, unw, freeAt, Option.getD_some, List.all_cons, List.all_nil, Bool.and_true, Bool.and_self, Slot.free, Nat.zero_sub, Nat.sub_zero, Nat.sub_self, Nat.reduceEqDiff, id_eq, decide_true, decide_false, eq_self, c__law_longest, c__law_next, c__law_subsets, c__law_take, c__law_tape, c_both_spoilt, c_least_reads, c_longest_unseen, c_next_read, c_staggered, c_takes_reads, T.x_InvalidPlan.ex]
  refine join (fun s => ∃ g : DL.Slot, s = [.v (.fz (.scr ns)), .v tp, .v (.fz (.int p)), .v (.ml [tupI A, tupI C]), k5, .v (.fz (.int (lg p A))), .v (.fz (.int L)), .v (.fz d7), d, .v (.fz (.lst (zs.map tupI))), g, .un, .un, .un, .un, .un, .un, b, c, e, f, .un]) ?_ ?_
  · intro N hN
    simp -dsimp only [↓s_var, ↓s_c, ↓s_op, ↓s_test, ↓s_truth, ↓s_chain, ↓s_and, ↓s_or, ↓s_not, ↓s_andV, ↓s_orV, ↓s_notV, ↓s_if, ↓s_un, ↓s_nil, ↓s_cons, ↓s_cb, ↓s_call, ↓s_tup, ↓s_lst, ↓s_nopart, ↓s_part, ↓s_sl, ↓s_app, ↓s_items, ↓s_rng1, ↓s_rng2, ↓s_rng3, ↓s_next, ↓s_seq, ↓s_break, ↓s_cont, ↓s_drop, ↓s_ret, ↓s_retN, ↓s_ifS, ↓s_asg, ↓s_gNm, ↓s_gTup, ↓s_gNil, ↓s_gCons, ↓s_aug, ↓s_par, ↓s_for, ↓s_while, ↓s_lc, ↓s_lc2, ↓s_yes, ↓s_tvs0, ↓s_tvs1, ↓s_tvV, ↓s_tvS, ↓s_rvV, ↓s_rvS, ↓s_enum, ↓s_zip, ↓s_callIO, ↓fin_t, pins_nil, pins_p, pins_v, pins_un, lent1, slotL_s, ↓putB_1, ↓s_setI, ↓s_dput, ↓s_daug, ↓s_dnew, ↓s_disp, ↓s_flat0, ↓s_flat1, ↓s_never, ↓s_raise, ↓s_neverE, mkD, D.key, Option.map_some, dgetM, ↓br_t, ↓br_f, ↓s_fin0, ↓s_ref, ↓s_tupRg, ↓s_lstRg, ↓s_rg1, ↓s_rg2, hide, hideS, s_resV, s_resS, s_resL0, s_resL1, s_slotM, s_setM, s_frz, s_frzL, wD_some, got_v, got_p, ↓gset_un, ↓gset_v, vslot_v, fslot_v, asB_b, asI_i, asT_t, asL_l, hasL_l, one_1, two_2, int1_1, int2_2, int3_3, ix0, ix1, Slot.fr?, Slot.m?, Slot.put, opz_f1, o_iop, b_lt, o_addI, o_addS, o_addT, o_addL, o_mulI, o_mulT, o_mulL, o_ixL, o_ixT, o_ixW, o_ixC, o_ixS, o_slL, o_slT, o_slS, o_lenL, o_lenT, o_lenW, o_lenC, o_lenD, o_lenS, o_abs, o_intI, o_intB, o_str, o_list, o_tupL, o_tupT, o_isN, o_isNotN, o_isTy, o_neg, t_non, t_bl, t_int, t_str, t_lst, t_tup, t_wtu, t_dic, i_lst, i_tup, i_wtu, i_scr, i_str, q_lst, q_scr, q_tup, q_wtu, o_sort, o_inL, o_inT, o_eqI, o_neI, o_all, o_any, o_sum, o_max2, o_min2, o_eqB, o_neB, o_ixD, o_ixDi, p_str, p_int, s_frzD, hasD_md, small_md, D.seqs, D.tyN, List.getElem?_cons_zero, List.getElem?_cons_succ, List.set_cons_zero, List.set_cons_succ, List.map_cons, List.map_nil, Option.bind_some, Option.map_some, true_and, and_true, and_assoc, startD, Bool.not_true, Bool.not_false, List.length_cons, List.length_nil, List.nil_append, List.cons_append, List.append_nil, List.replicate, Nat.reduceSub, Nat.reduceAdd, Nat.reduceLeDiff, wipeD, unw, freeAt, Option.getD_some, List.all_cons, List.all_nil, Bool.and_true, Bool.and_self, Slot.free, Nat.zero_sub, Nat.sub_zero, Nat.sub_self, Nat.reduceEqDiff, id_eq, decide_true, decide_false, eq_self, c__law_longest, c__law_next, c__law_subsets, c__law_take, c__law_tape, c_both_spoilt, c_least_reads, c_longest_unseen, c_next_read, c_staggered, c_takes_reads, T.x_InvalidPlan.ex]
    rcases hG with rfl | ⟨rest, rfl, g1, g2, g3⟩
    · refine br_of (fun h => ?_) (fun h => ?_)
      · simp at h
      · simp -dsimp only [↓s_var, ↓s_c, ↓s_op, ↓s_test, ↓s_truth, ↓s_chain, ↓s_and, ↓s_or, ↓s_not, ↓s_andV, ↓s_orV, ↓s_notV, ↓s_if, ↓s_un, ↓s_nil, ↓s_cons, ↓s_cb, ↓s_call, ↓s_tup, ↓s_lst, ↓s_nopart, ↓s_part, ↓s_sl, ↓s_app, ↓s_items, ↓s_rng1, ↓s_rng2, ↓s_rng3, ↓s_next, ↓s_seq, ↓s_break, ↓s_cont, ↓s_drop, ↓s_ret, ↓s_retN, ↓s_ifS, ↓s_asg, ↓s_gNm, ↓s_gTup, ↓s_gNil, ↓s_gCons, ↓s_aug, ↓s_par, ↓s_for, ↓s_while, ↓s_lc, ↓s_lc2, ↓s_yes, ↓s_tvs0, ↓s_tvs1, ↓s_tvV, ↓s_tvS, ↓s_rvV, ↓s_rvS, ↓s_enum, ↓s_zip, ↓s_callIO, ↓fin_t, pins_nil, pins_p, pins_v, pins_un, lent1, slotL_s, ↓putB_1, ↓s_setI, ↓s_dput, ↓s_daug, ↓s_dnew, ↓s_disp, ↓s_flat0, ↓s_flat1, ↓s_never, ↓s_raise, ↓s_neverE, mkD, D.key, Option.map_some, dgetM, ↓br_t, ↓br_f, ↓s_fin0, ↓s_ref, ↓s_tupRg, ↓s_lstRg, ↓s_rg1, ↓s_rg2, hide, hideS, s_resV, s_resS, s_resL0, s_resL1, s_slotM, s_setM, s_frz, s_frzL, wD_some, got_v, got_p, ↓gset_un, ↓gset_v, vslot_v, fslot_v, asB_b, asI_i, asT_t, asL_l, hasL_l, one_1, two_2, int1_1, int2_2, int3_3, ix0, ix1, Slot.fr?, Slot.m?, Slot.put, opz_f1, o_iop, b_lt, o_addI, o_addS, o_addT, o_addL, o_mulI, o_mulT, o_mulL, o_ixL, o_ixT, o_ixW, o_ixC, o_ixS, o_slL, o_slT, o_slS, o_lenL, o_lenT, o_lenW, o_lenC, o_lenD, o_lenS, o_abs, o_intI, o_intB, o_str, o_list, o_tupL, o_tupT, o_isN, o_isNotN, o_isTy, o_neg, t_non, t_bl, t_int, t_str, t_lst, t_tup, t_wtu, t_dic, i_lst, i_tup, i_wtu, i_scr, i_str, q_lst, q_scr, q_tup, q_wtu, o_sort, o_inL, o_inT, o_eqI, o_neI, o_all, o_any, o_sum, o_max2, o_min2, o_eqB, o_neB, o_ixD, o_ixDi, p_str, p_int, s_frzD, hasD_md, small_md, D.seqs, D.tyN, List.getElem?_cons_zero, List.getElem?_cons_succ, List.set_cons_zero, List.set_cons_succ, List.map_cons, List.map_nil, Option.bind_some, Option.map_some, true_and, and_true, and_assoc, startD, Bool.not_true, Bool.not_false, List.length_cons, List.length_nil, List.nil_append, List.cons_append, List.append_nil, List.replicate, Nat.reduceSub, Nat.reduceAdd, Nat.reduceLeDiff, wipeD, unw, freeAt, Option.getD_some, List.all_cons, List.all_nil, Bool.and_true, Bool.and_self, Slot.free, Nat.zero_sub, Nat.sub_zero, Nat.sub_self, Nat.reduceEqDiff, id_eq, decide_true, decide_false, eq_self, c__law_longest, c__law_next, c__law_subsets, c__law_take, c__law_tape, c_both_spoilt, c_least_reads, c_longest_unseen, c_next_read, c_staggered, c_takes_reads, T.x_InvalidPlan.ex]
        exact hN _ ⟨_, rfl⟩
    · refine br_of (fun h => ?_) (fun h => ?_)
      · simp -dsimp only [↓s_var, ↓s_c, ↓s_op, ↓s_test, ↓s_truth, ↓s_chain, ↓s_and, ↓s_or, ↓s_not, ↓s_andV, ↓s_orV, ↓s_notV, ↓s_if, ↓s_un, ↓s_nil, ↓s_cons, ↓s_cb, ↓s_call, ↓s_tup, ↓s_lst, ↓s_nopart, ↓s_part, ↓s_sl, ↓s_app, ↓s_items, ↓s_rng1, ↓s_rng2, ↓s_rng3, ↓s_next, ↓s_seq, ↓s_break, ↓s_cont, ↓s_drop, ↓s_ret, ↓s_retN, ↓s_ifS, ↓s_asg, ↓s_gNm, ↓s_gTup, ↓s_gNil, ↓s_gCons, ↓s_aug, ↓s_par, ↓s_for, ↓s_while, ↓s_lc, ↓s_lc2, ↓s_yes, ↓s_tvs0, ↓s_tvs1, ↓s_tvV, ↓s_tvS, ↓s_rvV, ↓s_rvS, ↓s_enum, ↓s_zip, ↓s_callIO, ↓fin_t, pins_nil, pins_p, pins_v, pins_un, lent1, slotL_s, ↓putB_1, ↓s_setI, ↓s_dput, ↓s_daug, ↓s_dnew, ↓s_disp, ↓s_flat0, ↓s_flat1, ↓s_never, ↓s_raise, ↓s_neverE, mkD, D.key, Option.map_some, dgetM, ↓br_t, ↓br_f, ↓s_fin0, ↓s_ref, ↓s_tupRg, ↓s_lstRg, ↓s_rg1, ↓s_rg2, hide, hideS, s_resV, s_resS, s_resL0, s_resL1, s_slotM, s_setM, s_frz, s_frzL, wD_some, got_v, got_p, ↓gset_un, ↓gset_v, vslot_v, fslot_v, asB_b, asI_i, asT_t, asL_l, hasL_l, one_1, two_2, int1_1, int2_2, int3_3, ix0, ix1, Slot.fr?, Slot.m?, Slot.put, opz_f1, o_iop, b_lt, o_addI, o_addS, o_addT, o_addL, o_mulI, o_mulT, o_mulL, o_ixL, o_ixT, o_ixW, o_ixC, o_ixS, o_slL, o_slT, o_slS, o_lenL, o_lenT, o_lenW, o_lenC, o_lenD, o_lenS, o_abs, o_intI, o_intB, o_str, o_list, o_tupL, o_tupT, o_isN, o_isNotN, o_isTy, o_neg, t_non, t_bl, t_int, t_str, t_lst, t_tup, t_wtu, t_dic, i_lst, i_tup, i_wtu, i_scr, i_str, q_lst, q_scr, q_tup, q_wtu, o_sort, o_inL, o_inT, o_eqI, o_neI, o_all, o_any, o_sum, o_max2, o_min2, o_eqB, o_neB, o_ixD, o_ixDi, p_str, p_int, s_frzD, hasD_md, small_md, D.seqs, D.tyN, List.getElem?_cons_zero, List.getElem?_cons_succ, List.set_cons_zero, List.set_cons_succ, List.map_cons, List.map_nil, Option.bind_some, Option.map_some, true_and, and_true, and_assoc, startD, Bool.not_true, Bool.not_false, List.length_cons, List.length_nil, List.nil_append, List.cons_append, List.append_nil, List.replicate, Nat.reduceSub, Nat.reduceAdd, Nat.reduceLeDiff, wipeD, unw, freeAt, Option.getD_some, List.all_cons, List.all_nil, Bool.and_true, Bool.and_self, Slot.free, Nat.zero_sub, Nat.sub_zero, Nat.sub_self, Nat.reduceEqDiff, id_eq, decide_true, decide_false, eq_self, c__law_longest, c__law_next, c__law_subsets, c__law_take, c__law_tape, c_both_spoilt, c_least_reads, c_longest_unseen, c_next_read, c_staggered, c_takes_reads, T.x_InvalidPlan.ex,  tupI]
        refine br_of (fun h8 => ?_) (fun h8 => ?_)
        · simp -dsimp only [↓s_var, ↓s_c, ↓s_op, ↓s_test, ↓s_truth, ↓s_chain, ↓s_and, ↓s_or, ↓s_not, ↓s_andV, ↓s_orV, ↓s_notV, ↓s_if, ↓s_un, ↓s_nil, ↓s_cons, ↓s_cb, ↓s_call, ↓s_tup, ↓s_lst, ↓s_nopart, ↓s_part, ↓s_sl, ↓s_app, ↓s_items, ↓s_rng1, ↓s_rng2, ↓s_rng3, ↓s_next, ↓s_seq, ↓s_break, ↓s_cont, ↓s_drop, ↓s_ret, ↓s_retN, ↓s_ifS, ↓s_asg, ↓s_gNm, ↓s_gTup, ↓s_gNil, ↓s_gCons, ↓s_aug, ↓s_par, ↓s_for, ↓s_while, ↓s_lc, ↓s_lc2, ↓s_yes, ↓s_tvs0, ↓s_tvs1, ↓s_tvV, ↓s_tvS, ↓s_rvV, ↓s_rvS, ↓s_enum, ↓s_zip, ↓s_callIO, ↓fin_t, pins_nil, pins_p, pins_v, pins_un, lent1, slotL_s, ↓putB_1, ↓s_setI, ↓s_dput, ↓s_daug, ↓s_dnew, ↓s_disp, ↓s_flat0, ↓s_flat1, ↓s_never, ↓s_raise, ↓s_neverE, mkD, D.key, Option.map_some, dgetM, ↓br_t, ↓br_f, ↓s_fin0, ↓s_ref, ↓s_tupRg, ↓s_lstRg, ↓s_rg1, ↓s_rg2, hide, hideS, s_resV, s_resS, s_resL0, s_resL1, s_slotM, s_setM, s_frz, s_frzL, wD_some, got_v, got_p, ↓gset_un, ↓gset_v, vslot_v, fslot_v, asB_b, asI_i, asT_t, asL_l, hasL_l, one_1, two_2, int1_1, int2_2, int3_3, ix0, ix1, Slot.fr?, Slot.m?, Slot.put, opz_f1, o_iop, b_lt, o_addI, o_addS, o_addT, o_addL, o_mulI, o_mulT, o_mulL, o_ixL, o_ixT, o_ixW, o_ixC, o_ixS, o_slL, o_slT, o_slS, o_lenL, o_lenT, o_lenW, o_lenC, o_lenD, o_lenS, o_abs, o_intI, o_intB, o_str, o_list, o_tupL, o_tupT, o_isN, o_isNotN, o_isTy, o_neg, t_non, t_bl, t_int, t_str, t_lst, t_tup, t_wtu, t_dic, i_lst, i_tup, i_wtu, i_scr, i_str, q_lst, q_scr, q_tup, q_wtu, o_sort, o_inL, o_inT, o_eqI, o_neI, o_all, o_any, o_sum, o_max2, o_min2, o_eqB, o_neB, o_ixD, o_ixDi, p_str, p_int, s_frzD, hasD_md, small_md, D.seqs, D.tyN, List.getElem?_cons_zero, List.getElem?_cons_succ, List.set_cons_zero, List.set_cons_succ, List.map_cons, List.map_nil, Option.bind_some, Option.map_some, true_and, and_true, and_assoc, startD, Bool.not_true, Bool.not_false, List.length_cons, List.length_nil, List.nil_append, List.cons_append, List.append_nil, List.replicate, Nat.reduceSub, Nat.reduceAdd, Nat.reduceLeDiff, wipeD, unw, freeAt, Option.getD_some, List.all_cons, List.all_nil, Bool.and_true, Bool.and_self, Slot.free, Nat.zero_sub, Nat.sub_zero, Nat.sub_self, Nat.reduceEqDiff, id_eq, decide_true, decide_false, eq_self, c__law_longest, c__law_next, c__law_subsets, c__law_take, c__law_tape, c_both_spoilt, c_least_reads, c_longest_unseen, c_next_read, c_staggered, c_takes_reads, T.x_InvalidPlan.ex]
          simp at h8
          have h9 : 8 < cdiv p (L + 1) := g2.mp (by omega)
          exact ⟨fun h => by omega, fun _ => hN _ ⟨_, rfl⟩, fun h => by omega, .inl (by omega)⟩
        · simp -dsimp only [↓s_var, ↓s_c, ↓s_op, ↓s_test, ↓s_truth, ↓s_chain, ↓s_and, ↓s_or, ↓s_not, ↓s_andV, ↓s_orV, ↓s_notV, ↓s_if, ↓s_un, ↓s_nil, ↓s_cons, ↓s_cb, ↓s_call, ↓s_tup, ↓s_lst, ↓s_nopart, ↓s_part, ↓s_sl, ↓s_app, ↓s_items, ↓s_rng1, ↓s_rng2, ↓s_rng3, ↓s_next, ↓s_seq, ↓s_break, ↓s_cont, ↓s_drop, ↓s_ret, ↓s_retN, ↓s_ifS, ↓s_asg, ↓s_gNm, ↓s_gTup, ↓s_gNil, ↓s_gCons, ↓s_aug, ↓s_par, ↓s_for, ↓s_while, ↓s_lc, ↓s_lc2, ↓s_yes, ↓s_tvs0, ↓s_tvs1, ↓s_tvV, ↓s_tvS, ↓s_rvV, ↓s_rvS, ↓s_enum, ↓s_zip, ↓s_callIO, ↓fin_t, pins_nil, pins_p, pins_v, pins_un, lent1, slotL_s, ↓putB_1, ↓s_setI, ↓s_dput, ↓s_daug, ↓s_dnew, ↓s_disp, ↓s_flat0, ↓s_flat1, ↓s_never, ↓s_raise, ↓s_neverE, mkD, D.key, Option.map_some, dgetM, ↓br_t, ↓br_f, ↓s_fin0, ↓s_ref, ↓s_tupRg, ↓s_lstRg, ↓s_rg1, ↓s_rg2, hide, hideS, s_resV, s_resS, s_resL0, s_resL1, s_slotM, s_setM, s_frz, s_frzL, wD_some, got_v, got_p, ↓gset_un, ↓gset_v, vslot_v, fslot_v, asB_b, asI_i, asT_t, asL_l, hasL_l, one_1, two_2, int1_1, int2_2, int3_3, ix0, ix1, Slot.fr?, Slot.m?, Slot.put, opz_f1, o_iop, b_lt, o_addI, o_addS, o_addT, o_addL, o_mulI, o_mulT, o_mulL, o_ixL, o_ixT, o_ixW, o_ixC, o_ixS, o_slL, o_slT, o_slS, o_lenL, o_lenT, o_lenW, o_lenC, o_lenD, o_lenS, o_abs, o_intI, o_intB, o_str, o_list, o_tupL, o_tupT, o_isN, o_isNotN, o_isTy, o_neg, t_non, t_bl, t_int, t_str, t_lst, t_tup, t_wtu, t_dic, i_lst, i_tup, i_wtu, i_scr, i_str, q_lst, q_scr, q_tup, q_wtu, o_sort, o_inL, o_inT, o_eqI, o_neI, o_all, o_any, o_sum, o_max2, o_min2, o_eqB, o_neB, o_ixD, o_ixDi, p_str, p_int, s_frzD, hasD_md, small_md, D.seqs, D.tyN, List.getElem?_cons_zero, List.getElem?_cons_succ, List.set_cons_zero, List.set_cons_succ, List.map_cons, List.map_nil, Option.bind_some, Option.map_some, true_and, and_true, and_assoc, startD, Bool.not_true, Bool.not_false, List.length_cons, List.length_nil, List.nil_append, List.cons_append, List.append_nil, List.replicate, Nat.reduceSub, Nat.reduceAdd, Nat.reduceLeDiff, wipeD, unw, freeAt, Option.getD_some, List.all_cons, List.all_nil, Bool.and_true, Bool.and_self, Slot.free, Nat.zero_sub, Nat.sub_zero, Nat.sub_self, Nat.reduceEqDiff, id_eq, decide_true, decide_false, eq_self, c__law_longest, c__law_next, c__law_subsets, c__law_take, c__law_tape, c_both_spoilt, c_least_reads, c_longest_unseen, c_next_read, c_staggered, c_takes_reads, T.x_InvalidPlan.ex,  tupI]
          simp at h8
          have h9 : ¬ 8 < cdiv p (L + 1) := fun h => by have := g2.mpr h; omega
          refine br_of (fun _ => ?_) (fun h' => by simp at h')
          simp -dsimp only [↓s_var, ↓s_c, ↓s_op, ↓s_test, ↓s_truth, ↓s_chain, ↓s_and, ↓s_or, ↓s_not, ↓s_andV, ↓s_orV, ↓s_notV, ↓s_if, ↓s_un, ↓s_nil, ↓s_cons, ↓s_cb, ↓s_call, ↓s_tup, ↓s_lst, ↓s_nopart, ↓s_part, ↓s_sl, ↓s_app, ↓s_items, ↓s_rng1, ↓s_rng2, ↓s_rng3, ↓s_next, ↓s_seq, ↓s_break, ↓s_cont, ↓s_drop, ↓s_ret, ↓s_retN, ↓s_ifS, ↓s_asg, ↓s_gNm, ↓s_gTup, ↓s_gNil, ↓s_gCons, ↓s_aug, ↓s_par, ↓s_for, ↓s_while, ↓s_lc, ↓s_lc2, ↓s_yes, ↓s_tvs0, ↓s_tvs1, ↓s_tvV, ↓s_tvS, ↓s_rvV, ↓s_rvS, ↓s_enum, ↓s_zip, ↓s_callIO, ↓fin_t, pins_nil, pins_p, pins_v, pins_un, lent1, slotL_s, ↓putB_1, ↓s_setI, ↓s_dput, ↓s_daug, ↓s_dnew, ↓s_disp, ↓s_flat0, ↓s_flat1, ↓s_never, ↓s_raise, ↓s_neverE, mkD, D.key, Option.map_some, dgetM, ↓br_t, ↓br_f, ↓s_fin0, ↓s_ref, ↓s_tupRg, ↓s_lstRg, ↓s_rg1, ↓s_rg2, hide, hideS, s_resV, s_resS, s_resL0, s_resL1, s_slotM, s_setM, s_frz, s_frzL, wD_some, got_v, got_p, ↓gset_un, ↓gset_v, vslot_v, fslot_v, asB_b, asI_i, asT_t, asL_l, hasL_l, one_1, two_2, int1_1, int2_2, int3_3, ix0, ix1, Slot.fr?, Slot.m?, Slot.put, opz_f1, o_iop, b_lt, o_addI, o_addS, o_addT, o_addL, o_mulI, o_mulT, o_mulL, o_ixL, o_ixT, o_ixW, o_ixC, o_ixS, o_slL, o_slT, o_slS, o_lenL, o_lenT, o_lenW, o_lenC, o_lenD, o_lenS, o_abs, o_intI, o_intB, o_str, o_list, o_tupL, o_tupT, o_isN, o_isNotN, o_isTy, o_neg, t_non, t_bl, t_int, t_str, t_lst, t_tup, t_wtu, t_dic, i_lst, i_tup, i_wtu, i_scr, i_str, q_lst, q_scr, q_tup, q_wtu, o_sort, o_inL, o_inT, o_eqI, o_neI, o_all, o_any, o_sum, o_max2, o_min2, o_eqB, o_neB, o_ixD, o_ixDi, p_str, p_int, s_frzD, hasD_md, small_md, D.seqs, D.tyN, List.getElem?_cons_zero, List.getElem?_cons_succ, List.set_cons_zero, List.set_cons_succ, List.map_cons, List.map_nil, Option.bind_some, Option.map_some, true_and, and_true, and_assoc, startD, Bool.not_true, Bool.not_false, List.length_cons, List.length_nil, List.nil_append, List.cons_append, List.append_nil, List.replicate, Nat.reduceSub, Nat.reduceAdd, Nat.reduceLeDiff, wipeD, unw, freeAt, Option.getD_some, List.all_cons, List.all_nil, Bool.and_true, Bool.and_self, Slot.free, Nat.zero_sub, Nat.sub_zero, Nat.sub_self, Nat.reduceEqDiff, id_eq, decide_true, decide_false, eq_self, c__law_longest, c__law_next, c__law_subsets, c__law_take, c__law_tape, c_both_spoilt, c_least_reads, c_longest_unseen, c_next_read, c_staggered, c_takes_reads, T.x_InvalidPlan.ex]
          refine ⟨fun _ => ?_, fun h => by omega, fun h => by omega, .inl (by omega)⟩
          have e4 := Enc.tupI.ne (by decide) (lr p L) (lr p L) trivial trivial
          rw [decide_eq_true rfl] at e4
          unfold tupI at e4 ⊢
          try simp -dsimp only [↓s_var, ↓s_c, ↓s_op, ↓s_test, ↓s_truth, ↓s_chain, ↓s_and, ↓s_or, ↓s_not, ↓s_andV, ↓s_orV, ↓s_notV, ↓s_if, ↓s_un, ↓s_nil, ↓s_cons, ↓s_cb, ↓s_call, ↓s_tup, ↓s_lst, ↓s_nopart, ↓s_part, ↓s_sl, ↓s_app, ↓s_items, ↓s_rng1, ↓s_rng2, ↓s_rng3, ↓s_next, ↓s_seq, ↓s_break, ↓s_cont, ↓s_drop, ↓s_ret, ↓s_retN, ↓s_ifS, ↓s_asg, ↓s_gNm, ↓s_gTup, ↓s_gNil, ↓s_gCons, ↓s_aug, ↓s_par, ↓s_for, ↓s_while, ↓s_lc, ↓s_lc2, ↓s_yes, ↓s_tvs0, ↓s_tvs1, ↓s_tvV, ↓s_tvS, ↓s_rvV, ↓s_rvS, ↓s_enum, ↓s_zip, ↓s_callIO, ↓fin_t, pins_nil, pins_p, pins_v, pins_un, lent1, slotL_s, ↓putB_1, ↓s_setI, ↓s_dput, ↓s_daug, ↓s_dnew, ↓s_disp, ↓s_flat0, ↓s_flat1, ↓s_never, ↓s_raise, ↓s_neverE, mkD, D.key, Option.map_some, dgetM, ↓br_t, ↓br_f, ↓s_fin0, ↓s_ref, ↓s_tupRg, ↓s_lstRg, ↓s_rg1, ↓s_rg2, hide, hideS, s_resV, s_resS, s_resL0, s_resL1, s_slotM, s_setM, s_frz, s_frzL, wD_some, got_v, got_p, ↓gset_un, ↓gset_v, vslot_v, fslot_v, asB_b, asI_i, asT_t, asL_l, hasL_l, one_1, two_2, int1_1, int2_2, int3_3, ix0, ix1, Slot.fr?, Slot.m?, Slot.put, opz_f1, o_iop, b_lt, o_addI, o_addS, o_addT, o_addL, o_mulI, o_mulT, o_mulL, o_ixL, o_ixT, o_ixW, o_ixC, o_ixS, o_slL, o_slT, o_slS, o_lenL, o_lenT, o_lenW, o_lenC, o_lenD, o_lenS, o_abs, o_intI, o_intB, o_str, o_list, o_tupL, o_tupT, o_isN, o_isNotN, o_isTy, o_neg, t_non, t_bl, t_int, t_str, t_lst, t_tup, t_wtu, t_dic, i_lst, i_tup, i_wtu, i_scr, i_str, q_lst, q_scr, q_tup, q_wtu, o_sort, o_inL, o_inT, o_eqI, o_neI, o_all, o_any, o_sum, o_max2, o_min2, o_eqB, o_neB, o_ixD, o_ixDi, p_str, p_int, s_frzD, hasD_md, small_md, D.seqs, D.tyN, List.getElem?_cons_zero, List.getElem?_cons_succ, List.set_cons_zero, List.set_cons_succ, List.map_cons, List.map_nil, Option.bind_some, Option.map_some, true_and, and_true, and_assoc, startD, Bool.not_true, Bool.not_false, List.length_cons, List.length_nil, List.nil_append, List.cons_append, List.append_nil, List.replicate, Nat.reduceSub, Nat.reduceAdd, Nat.reduceLeDiff, wipeD, unw, freeAt, Option.getD_some, List.all_cons, List.all_nil, Bool.and_true, Bool.and_self, Slot.free, Nat.zero_sub, Nat.sub_zero, Nat.sub_self, Nat.reduceEqDiff, id_eq, decide_true, decide_false, eq_self, c__law_longest, c__law_next, c__law_subsets, c__law_take, c__law_tape, c_both_spoilt, c_least_reads, c_longest_unseen, c_next_read, c_staggered, c_takes_reads, T.x_InvalidPlan.ex]
          refine opz_of e4 ?_
          simp -dsimp only [↓s_var, ↓s_c, ↓s_op, ↓s_test, ↓s_truth, ↓s_chain, ↓s_and, ↓s_or, ↓s_not, ↓s_andV, ↓s_orV, ↓s_notV, ↓s_if, ↓s_un, ↓s_nil, ↓s_cons, ↓s_cb, ↓s_call, ↓s_tup, ↓s_lst, ↓s_nopart, ↓s_part, ↓s_sl, ↓s_app, ↓s_items, ↓s_rng1, ↓s_rng2, ↓s_rng3, ↓s_next, ↓s_seq, ↓s_break, ↓s_cont, ↓s_drop, ↓s_ret, ↓s_retN, ↓s_ifS, ↓s_asg, ↓s_gNm, ↓s_gTup, ↓s_gNil, ↓s_gCons, ↓s_aug, ↓s_par, ↓s_for, ↓s_while, ↓s_lc, ↓s_lc2, ↓s_yes, ↓s_tvs0, ↓s_tvs1, ↓s_tvV, ↓s_tvS, ↓s_rvV, ↓s_rvS, ↓s_enum, ↓s_zip, ↓s_callIO, ↓fin_t, pins_nil, pins_p, pins_v, pins_un, lent1, slotL_s, ↓putB_1, ↓s_setI, ↓s_dput, ↓s_daug, ↓s_dnew, ↓s_disp, ↓s_flat0, ↓s_flat1, ↓s_never, ↓s_raise, ↓s_neverE, mkD, D.key, Option.map_some, dgetM, ↓br_t, ↓br_f, ↓s_fin0, ↓s_ref, ↓s_tupRg, ↓s_lstRg, ↓s_rg1, ↓s_rg2, hide, hideS, s_resV, s_resS, s_resL0, s_resL1, s_slotM, s_setM, s_frz, s_frzL, wD_some, got_v, got_p, ↓gset_un, ↓gset_v, vslot_v, fslot_v, asB_b, asI_i, asT_t, asL_l, hasL_l, one_1, two_2, int1_1, int2_2, int3_3, ix0, ix1, Slot.fr?, Slot.m?, Slot.put, opz_f1, o_iop, b_lt, o_addI, o_addS, o_addT, o_addL, o_mulI, o_mulT, o_mulL, o_ixL, o_ixT, o_ixW, o_ixC, o_ixS, o_slL, o_slT, o_slS, o_lenL, o_lenT, o_lenW, o_lenC, o_lenD, o_lenS, o_abs, o_intI, o_intB, o_str, o_list, o_tupL, o_tupT, o_isN, o_isNotN, o_isTy, o_neg, t_non, t_bl, t_int, t_str, t_lst, t_tup, t_wtu, t_dic, i_lst, i_tup, i_wtu, i_scr, i_str, q_lst, q_scr, q_tup, q_wtu, o_sort, o_inL, o_inT, o_eqI, o_neI, o_all, o_any, o_sum, o_max2, o_min2, o_eqB, o_neB, o_ixD, o_ixDi, p_str, p_int, s_frzD, hasD_md, small_md, D.seqs, D.tyN, List.getElem?_cons_zero, List.getElem?_cons_succ, List.set_cons_zero, List.set_cons_succ, List.map_cons, List.map_nil, Option.bind_some, Option.map_some, true_and, and_true, and_assoc, startD, Bool.not_true, Bool.not_false, List.length_cons, List.length_nil, List.nil_append, List.cons_append, List.append_nil, List.replicate, Nat.reduceSub, Nat.reduceAdd, Nat.reduceLeDiff, wipeD, unw, freeAt, Option.getD_some, List.all_cons, List.all_nil, Bool.and_true, Bool.and_self, Slot.free, Nat.zero_sub, Nat.sub_zero, Nat.sub_self, Nat.reduceEqDiff, id_eq, decide_true, decide_false, eq_self, c__law_longest, c__law_next, c__law_subsets, c__law_take, c__law_tape, c_both_spoilt, c_least_reads, c_longest_unseen, c_next_read, c_staggered, c_takes_reads, T.x_InvalidPlan.ex]
          exact hN _ ⟨_, rfl⟩
      · simp at h
  rintro s ⟨g, rfl⟩
  simp -dsimp only [↓s_var, ↓s_c, ↓s_op, ↓s_test, ↓s_truth, ↓s_chain, ↓s_and, ↓s_or, ↓s_not, ↓s_andV, ↓s_orV, ↓s_notV, ↓s_if, ↓s_un, ↓s_nil, ↓s_cons, ↓s_cb, ↓s_call, ↓s_tup, ↓s_lst, ↓s_nopart, ↓s_part, ↓s_sl, ↓s_app, ↓s_items, ↓s_rng1, ↓s_rng2, ↓s_rng3, ↓s_next, ↓s_seq, ↓s_break, ↓s_cont, ↓s_drop, ↓s_ret, ↓s_retN, ↓s_ifS, ↓s_asg, ↓s_gNm, ↓s_gTup, ↓s_gNil, ↓s_gCons, ↓s_aug, ↓s_par, ↓s_for, ↓s_while, ↓s_lc, ↓s_lc2, ↓s_yes, ↓s_tvs0, ↓s_tvs1, ↓s_tvV, ↓s_tvS, ↓s_rvV, ↓s_rvS, ↓s_enum, ↓s_zip, ↓s_callIO, ↓fin_t, pins_nil, pins_p, pins_v, pins_un, lent1, slotL_s, ↓putB_1, ↓s_setI, ↓s_dput, ↓s_daug, ↓s_dnew, ↓s_disp, ↓s_flat0, ↓s_flat1, ↓s_never, ↓s_raise, ↓s_neverE, mkD, D.key, Option.map_some, dgetM, ↓br_t, ↓br_f, ↓s_fin0, ↓s_ref, ↓s_tupRg, ↓s_lstRg, ↓s_rg1, ↓s_rg2, hide, hideS, s_resV, s_resS, s_resL0, s_resL1, s_slotM, s_setM, s_frz, s_frzL, wD_some, got_v, got_p, ↓gset_un, ↓gset_v, vslot_v, fslot_v, asB_b, asI_i, asT_t, asL_l, hasL_l, one_1, two_2, int1_1, int2_2, int3_3, ix0, ix1, Slot.fr?, Slot.m?, Slot.put, opz_f1, o_iop, b_lt, o_addI, o_addS, o_addT, o_addL, o_mulI, o_mulT, o_mulL, o_ixL, o_ixT, o_ixW, o_ixC, o_ixS, o_slL, o_slT, o_slS, o_lenL, o_lenT, o_lenW, o_lenC, o_lenD, o_lenS, o_abs, o_intI, o_intB, o_str, o_list, o_tupL, o_tupT, o_isN, o_isNotN, o_isTy, o_neg, t_non, t_bl, t_int, t_str, t_lst, t_tup, t_wtu, t_dic, i_lst, i_tup, i_wtu, i_scr, i_str, q_lst, q_scr, q_tup, q_wtu, o_sort, o_inL, o_inT, o_eqI, o_neI, o_all, o_any, o_sum, o_max2, o_min2, o_eqB, o_neB, o_ixD, o_ixDi, p_str, p_int, s_frzD, hasD_md, small_md, D.seqs, D.tyN, List.getElem?_cons_zero, List.getElem?_cons_succ, List.set_cons_zero, List.set_cons_succ, List.map_cons, List.map_nil, Option.bind_some, Option.map_some, true_and, and_true, and_assoc, startD, Bool.not_true, Bool.not_false, List.length_cons, List.length_nil, List.nil_append, List.cons_append, List.append_nil, List.replicate, Nat.reduceSub, Nat.reduceAdd, Nat.reduceLeDiff, wipeD, unw, freeAt, Option.getD_some, List.all_cons, List.all_nil, Bool.and_true, Bool.and_self, Slot.free, Nat.zero_sub, Nat.sub_zero, Nat.sub_self, Nat.reduceEqDiff, id_eq, decide_true, decide_false, eq_self, c__law_longest, c__law_next, c__law_subsets, c__law_take, c__law_tape, c_both_spoilt, c_least_reads, c_longest_unseen, c_next_read, c_staggered, c_takes_reads, T.x_InvalidPlan.ex]
  refine ⟨hT, by decide, by decide, fun v11 tp v110 v111 hT => ?_⟩
  obtain ⟨wd, hwd⟩ : ∃ x, x = 1 + v11 := ⟨_, rfl⟩
  have hw : 1 ≤ wd ∧ wd ≤ 60 := by omega
  try simp -dsimp only [↓s_var, ↓s_c, ↓s_op, ↓s_test, ↓s_truth, ↓s_chain, ↓s_and, ↓s_or, ↓s_not, ↓s_andV, ↓s_orV, ↓s_notV, ↓s_if, ↓s_un, ↓s_nil, ↓s_cons, ↓s_cb, ↓s_call, ↓s_tup, ↓s_lst, ↓s_nopart, ↓s_part, ↓s_sl, ↓s_app, ↓s_items, ↓s_rng1, ↓s_rng2, ↓s_rng3, ↓s_next, ↓s_seq, ↓s_break, ↓s_cont, ↓s_drop, ↓s_ret, ↓s_retN, ↓s_ifS, ↓s_asg, ↓s_gNm, ↓s_gTup, ↓s_gNil, ↓s_gCons, ↓s_aug, ↓s_par, ↓s_for, ↓s_while, ↓s_lc, ↓s_lc2, ↓s_yes, ↓s_tvs0, ↓s_tvs1, ↓s_tvV, ↓s_tvS, ↓s_rvV, ↓s_rvS, ↓s_enum, ↓s_zip, ↓s_callIO, ↓fin_t, pins_nil, pins_p, pins_v, pins_un, lent1, slotL_s, ↓putB_1, ↓s_setI, ↓s_dput, ↓s_daug, ↓s_dnew, ↓s_disp, ↓s_flat0, ↓s_flat1, ↓s_never, ↓s_raise, ↓s_neverE, mkD, D.key, Option.map_some, dgetM, ↓br_t, ↓br_f, ↓s_fin0, ↓s_ref, ↓s_tupRg, ↓s_lstRg, ↓s_rg1, ↓s_rg2, hide, hideS, s_resV, s_resS, s_resL0, s_resL1, s_slotM, s_setM, s_frz, s_frzL, wD_some, got_v, got_p, ↓gset_un, ↓gset_v, vslot_v, fslot_v, asB_b, asI_i, asT_t, asL_l, hasL_l, one_1, two_2, int1_1, int2_2, int3_3, ix0, ix1, Slot.fr?, Slot.m?, Slot.put, opz_f1, o_iop, b_lt, o_addI, o_addS, o_addT, o_addL, o_mulI, o_mulT, o_mulL, o_ixL, o_ixT, o_ixW, o_ixC, o_ixS, o_slL, o_slT, o_slS, o_lenL, o_lenT, o_lenW, o_lenC, o_lenD, o_lenS, o_abs, o_intI, o_intB, o_str, o_list, o_tupL, o_tupT, o_isN, o_isNotN, o_isTy, o_neg, t_non, t_bl, t_int, t_str, t_lst, t_tup, t_wtu, t_dic, i_lst, i_tup, i_wtu, i_scr, i_str, q_lst, q_scr, q_tup, q_wtu, o_sort, o_inL, o_inT, o_eqI, o_neI, o_all, o_any, o_sum, o_max2, o_min2, o_eqB, o_neB, o_ixD, o_ixDi, p_str, p_int, s_frzD, hasD_md, small_md, D.seqs, D.tyN, List.getElem?_cons_zero, List.getElem?_cons_succ, List.set_cons_zero, List.set_cons_succ, List.map_cons, List.map_nil, Option.bind_some, Option.map_some, true_and, and_true, and_assoc, startD, Bool.not_true, Bool.not_false, List.length_cons, List.length_nil, List.nil_append, List.cons_append, List.append_nil, List.replicate, Nat.reduceSub, Nat.reduceAdd, Nat.reduceLeDiff, wipeD, unw, freeAt, Option.getD_some, List.all_cons, List.all_nil, Bool.and_true, Bool.and_self, Slot.free, Nat.zero_sub, Nat.sub_zero, Nat.sub_self, Nat.reduceEqDiff, id_eq, decide_true, decide_false, eq_self, c__law_longest, c__law_next, c__law_subsets, c__law_take, c__law_tape, c_both_spoilt, c_least_reads, c_longest_unseen, c_next_read, c_staggered, c_takes_reads, T.x_InvalidPlan.ex]
  rw [← hwd]
  have efd : wd.fdiv 4 = wd / 4 := Int.fdiv_eq_ediv_of_nonneg _ (by decide)
  rw [efd]
  obtain ⟨w1, ⟨wr, w2⟩, w3, w4⟩ := wide_ok hw
  refine ⟨cfd_r (by decide) (by decide), fun _ => ?_, fun h => by rw [show wd / 4 + 1 + 1 = wd / 4 + 2 by omega] at h; omega, fun h => by omega, .inl (by omega)⟩
  unfold tupI
  simp -dsimp only [↓s_var, ↓s_c, ↓s_op, ↓s_test, ↓s_truth, ↓s_chain, ↓s_and, ↓s_or, ↓s_not, ↓s_andV, ↓s_orV, ↓s_notV, ↓s_if, ↓s_un, ↓s_nil, ↓s_cons, ↓s_cb, ↓s_call, ↓s_tup, ↓s_lst, ↓s_nopart, ↓s_part, ↓s_sl, ↓s_app, ↓s_items, ↓s_rng1, ↓s_rng2, ↓s_rng3, ↓s_next, ↓s_seq, ↓s_break, ↓s_cont, ↓s_drop, ↓s_ret, ↓s_retN, ↓s_ifS, ↓s_asg, ↓s_gNm, ↓s_gTup, ↓s_gNil, ↓s_gCons, ↓s_aug, ↓s_par, ↓s_for, ↓s_while, ↓s_lc, ↓s_lc2, ↓s_yes, ↓s_tvs0, ↓s_tvs1, ↓s_tvV, ↓s_tvS, ↓s_rvV, ↓s_rvS, ↓s_enum, ↓s_zip, ↓s_callIO, ↓fin_t, pins_nil, pins_p, pins_v, pins_un, lent1, slotL_s, ↓putB_1, ↓s_setI, ↓s_dput, ↓s_daug, ↓s_dnew, ↓s_disp, ↓s_flat0, ↓s_flat1, ↓s_never, ↓s_raise, ↓s_neverE, mkD, D.key, Option.map_some, dgetM, ↓br_t, ↓br_f, ↓s_fin0, ↓s_ref, ↓s_tupRg, ↓s_lstRg, ↓s_rg1, ↓s_rg2, hide, hideS, s_resV, s_resS, s_resL0, s_resL1, s_slotM, s_setM, s_frz, s_frzL, wD_some, got_v, got_p, ↓gset_un, ↓gset_v, vslot_v, fslot_v, asB_b, asI_i, asT_t, asL_l, hasL_l, one_1, two_2, int1_1, int2_2, int3_3, ix0, ix1, Slot.fr?, Slot.m?, Slot.put, opz_f1, o_iop, b_lt, o_addI, o_addS, o_addT, o_addL, o_mulI, o_mulT, o_mulL, o_ixL, o_ixT, o_ixW, o_ixC, o_ixS, o_slL, o_slT, o_slS, o_lenL, o_lenT, o_lenW, o_lenC, o_lenD, o_lenS, o_abs, o_intI, o_intB, o_str, o_list, o_tupL, o_tupT, o_isN, o_isNotN, o_isTy, o_neg, t_non, t_bl, t_int, t_str, t_lst, t_tup, t_wtu, t_dic, i_lst, i_tup, i_wtu, i_scr, i_str, q_lst, q_scr, q_tup, q_wtu, o_sort, o_inL, o_inT, o_eqI, o_neI, o_all, o_any, o_sum, o_max2, o_min2, o_eqB, o_neB, o_ixD, o_ixDi, p_str, p_int, s_frzD, hasD_md, small_md, D.seqs, D.tyN, List.getElem?_cons_zero, List.getElem?_cons_succ, List.set_cons_zero, List.set_cons_succ, List.map_cons, List.map_nil, Option.bind_some, Option.map_some, true_and, and_true, and_assoc, startD, Bool.not_true, Bool.not_false, List.length_cons, List.length_nil, List.nil_append, List.cons_append, List.append_nil, List.replicate, Nat.reduceSub, Nat.reduceAdd, Nat.reduceLeDiff, wipeD, unw, freeAt, Option.getD_some, List.all_cons, List.all_nil, Bool.and_true, Bool.and_self, Slot.free, Nat.zero_sub, Nat.sub_zero, Nat.sub_self, Nat.reduceEqDiff, id_eq, decide_true, decide_false, eq_self, c__law_longest, c__law_next, c__law_subsets, c__law_take, c__law_tape, c_both_spoilt, c_least_reads, c_longest_unseen, c_next_read, c_staggered, c_takes_reads, T.x_InvalidPlan.ex]
  refine ⟨_, rfl, w4.n, hw.2, cfd_r (by decide) (by decide), br_dec (fun h => by omega) (fun _ => ?_)⟩
  rw [w2]
  simp -dsimp only [↓s_var, ↓s_c, ↓s_op, ↓s_test, ↓s_truth, ↓s_chain, ↓s_and, ↓s_or, ↓s_not, ↓s_andV, ↓s_orV, ↓s_notV, ↓s_if, ↓s_un, ↓s_nil, ↓s_cons, ↓s_cb, ↓s_call, ↓s_tup, ↓s_lst, ↓s_nopart, ↓s_part, ↓s_sl, ↓s_app, ↓s_items, ↓s_rng1, ↓s_rng2, ↓s_rng3, ↓s_next, ↓s_seq, ↓s_break, ↓s_cont, ↓s_drop, ↓s_ret, ↓s_retN, ↓s_ifS, ↓s_asg, ↓s_gNm, ↓s_gTup, ↓s_gNil, ↓s_gCons, ↓s_aug, ↓s_par, ↓s_for, ↓s_while, ↓s_lc, ↓s_lc2, ↓s_yes, ↓s_tvs0, ↓s_tvs1, ↓s_tvV, ↓s_tvS, ↓s_rvV, ↓s_rvS, ↓s_enum, ↓s_zip, ↓s_callIO, ↓fin_t, pins_nil, pins_p, pins_v, pins_un, lent1, slotL_s, ↓putB_1, ↓s_setI, ↓s_dput, ↓s_daug, ↓s_dnew, ↓s_disp, ↓s_flat0, ↓s_flat1, ↓s_never, ↓s_raise, ↓s_neverE, mkD, D.key, Option.map_some, dgetM, ↓br_t, ↓br_f, ↓s_fin0, ↓s_ref, ↓s_tupRg, ↓s_lstRg, ↓s_rg1, ↓s_rg2, hide, hideS, s_resV, s_resS, s_resL0, s_resL1, s_slotM, s_setM, s_frz, s_frzL, wD_some, got_v, got_p, ↓gset_un, ↓gset_v, vslot_v, fslot_v, asB_b, asI_i, asT_t, asL_l, hasL_l, one_1, two_2, int1_1, int2_2, int3_3, ix0, ix1, Slot.fr?, Slot.m?, Slot.put, opz_f1, o_iop, b_lt, o_addI, o_addS, o_addT, o_addL, o_mulI, o_mulT, o_mulL, o_ixL, o_ixT, o_ixW, o_ixC, o_ixS, o_slL, o_slT, o_slS, o_lenL, o_lenT, o_lenW, o_lenC, o_lenD, o_lenS, o_abs, o_intI, o_intB, o_str, o_list, o_tupL, o_tupT, o_isN, o_isNotN, o_isTy, o_neg, t_non, t_bl, t_int, t_str, t_lst, t_tup, t_wtu, t_dic, i_lst, i_tup, i_wtu, i_scr, i_str, q_lst, q_scr, q_tup, q_wtu, o_sort, o_inL, o_inT, o_eqI, o_neI, o_all, o_any, o_sum, o_max2, o_min2, o_eqB, o_neB, o_ixD, o_ixDi, p_str, p_int, s_frzD, hasD_md, small_md, D.seqs, D.tyN, List.getElem?_cons_zero, List.getElem?_cons_succ, List.set_cons_zero, List.set_cons_succ, List.map_cons, List.map_nil, Option.bind_some, Option.map_some, true_and, and_true, and_assoc, startD, Bool.not_true, Bool.not_false, List.length_cons, List.length_nil, List.nil_append, List.cons_append, List.append_nil, List.replicate, Nat.reduceSub, Nat.reduceAdd, Nat.reduceLeDiff, wipeD, unw, freeAt, Option.getD_some, List.all_cons, List.all_nil, Bool.and_true, Bool.and_self, Slot.free, Nat.zero_sub, Nat.sub_zero, Nat.sub_self, Nat.reduceEqDiff, id_eq, decide_true, decide_false, eq_self, c__law_longest, c__law_next, c__law_subsets, c__law_take, c__law_tape, c_both_spoilt, c_least_reads, c_longest_unseen, c_next_read, c_staggered, c_takes_reads, T.x_InvalidPlan.ex]
  refine ⟨hT, by omega, by omega, fun v13 tp v130 v131 hT => ?_⟩
  obtain ⟨kk, hkk⟩ : ∃ x, x = 1 + v13 := ⟨_, rfl⟩
  have hk : 1 ≤ kk ∧ kk ≤ p := by omega
  try simp -dsimp only [↓s_var, ↓s_c, ↓s_op, ↓s_test, ↓s_truth, ↓s_chain, ↓s_and, ↓s_or, ↓s_not, ↓s_andV, ↓s_orV, ↓s_notV, ↓s_if, ↓s_un, ↓s_nil, ↓s_cons, ↓s_cb, ↓s_call, ↓s_tup, ↓s_lst, ↓s_nopart, ↓s_part, ↓s_sl, ↓s_app, ↓s_items, ↓s_rng1, ↓s_rng2, ↓s_rng3, ↓s_next, ↓s_seq, ↓s_break, ↓s_cont, ↓s_drop, ↓s_ret, ↓s_retN, ↓s_ifS, ↓s_asg, ↓s_gNm, ↓s_gTup, ↓s_gNil, ↓s_gCons, ↓s_aug, ↓s_par, ↓s_for, ↓s_while, ↓s_lc, ↓s_lc2, ↓s_yes, ↓s_tvs0, ↓s_tvs1, ↓s_tvV, ↓s_tvS, ↓s_rvV, ↓s_rvS, ↓s_enum, ↓s_zip, ↓s_callIO, ↓fin_t, pins_nil, pins_p, pins_v, pins_un, lent1, slotL_s, ↓putB_1, ↓s_setI, ↓s_dput, ↓s_daug, ↓s_dnew, ↓s_disp, ↓s_flat0, ↓s_flat1, ↓s_never, ↓s_raise, ↓s_neverE, mkD, D.key, Option.map_some, dgetM, ↓br_t, ↓br_f, ↓s_fin0, ↓s_ref, ↓s_tupRg, ↓s_lstRg, ↓s_rg1, ↓s_rg2, hide, hideS, s_resV, s_resS, s_resL0, s_resL1, s_slotM, s_setM, s_frz, s_frzL, wD_some, got_v, got_p, ↓gset_un, ↓gset_v, vslot_v, fslot_v, asB_b, asI_i, asT_t, asL_l, hasL_l, one_1, two_2, int1_1, int2_2, int3_3, ix0, ix1, Slot.fr?, Slot.m?, Slot.put, opz_f1, o_iop, b_lt, o_addI, o_addS, o_addT, o_addL, o_mulI, o_mulT, o_mulL, o_ixL, o_ixT, o_ixW, o_ixC, o_ixS, o_slL, o_slT, o_slS, o_lenL, o_lenT, o_lenW, o_lenC, o_lenD, o_lenS, o_abs, o_intI, o_intB, o_str, o_list, o_tupL, o_tupT, o_isN, o_isNotN, o_isTy, o_neg, t_non, t_bl, t_int, t_str, t_lst, t_tup, t_wtu, t_dic, i_lst, i_tup, i_wtu, i_scr, i_str, q_lst, q_scr, q_tup, q_wtu, o_sort, o_inL, o_inT, o_eqI, o_neI, o_all, o_any, o_sum, o_max2, o_min2, o_eqB, o_neB, o_ixD, o_ixDi, p_str, p_int, s_frzD, hasD_md, small_md, D.seqs, D.tyN, List.getElem?_cons_zero, List.getElem?_cons_succ, List.set_cons_zero, List.set_cons_succ, List.map_cons, List.map_nil, Option.bind_some, Option.map_some, true_and, and_true, and_assoc, startD, Bool.not_true, Bool.not_false, List.length_cons, List.length_nil, List.nil_append, List.cons_append, List.append_nil, List.replicate, Nat.reduceSub, Nat.reduceAdd, Nat.reduceLeDiff, wipeD, unw, freeAt, Option.getD_some, List.all_cons, List.all_nil, Bool.and_true, Bool.and_self, Slot.free, Nat.zero_sub, Nat.sub_zero, Nat.sub_self, Nat.reduceEqDiff, id_eq, decide_true, decide_false, eq_self, c__law_longest, c__law_next, c__law_subsets, c__law_take, c__law_tape, c_both_spoilt, c_least_reads, c_longest_unseen, c_next_read, c_staggered, c_takes_reads, T.x_InvalidPlan.ex]
  rw [← hkk]
  refine ⟨by omega, by omega, fun _ => ?_, fun h => absurd hk h⟩
  subst hk5
  obtain ⟨⟨sr, s1⟩, s2⟩ := spread_ok hp1 hk
  have slen := @spr_len p kk.toNat
  unfold tupI
  try simp -dsimp only [↓s_var, ↓s_c, ↓s_op, ↓s_test, ↓s_truth, ↓s_chain, ↓s_and, ↓s_or, ↓s_not, ↓s_andV, ↓s_orV, ↓s_notV, ↓s_if, ↓s_un, ↓s_nil, ↓s_cons, ↓s_cb, ↓s_call, ↓s_tup, ↓s_lst, ↓s_nopart, ↓s_part, ↓s_sl, ↓s_app, ↓s_items, ↓s_rng1, ↓s_rng2, ↓s_rng3, ↓s_next, ↓s_seq, ↓s_break, ↓s_cont, ↓s_drop, ↓s_ret, ↓s_retN, ↓s_ifS, ↓s_asg, ↓s_gNm, ↓s_gTup, ↓s_gNil, ↓s_gCons, ↓s_aug, ↓s_par, ↓s_for, ↓s_while, ↓s_lc, ↓s_lc2, ↓s_yes, ↓s_tvs0, ↓s_tvs1, ↓s_tvV, ↓s_tvS, ↓s_rvV, ↓s_rvS, ↓s_enum, ↓s_zip, ↓s_callIO, ↓fin_t, pins_nil, pins_p, pins_v, pins_un, lent1, slotL_s, ↓putB_1, ↓s_setI, ↓s_dput, ↓s_daug, ↓s_dnew, ↓s_disp, ↓s_flat0, ↓s_flat1, ↓s_never, ↓s_raise, ↓s_neverE, mkD, D.key, Option.map_some, dgetM, ↓br_t, ↓br_f, ↓s_fin0, ↓s_ref, ↓s_tupRg, ↓s_lstRg, ↓s_rg1, ↓s_rg2, hide, hideS, s_resV, s_resS, s_resL0, s_resL1, s_slotM, s_setM, s_frz, s_frzL, wD_some, got_v, got_p, ↓gset_un, ↓gset_v, vslot_v, fslot_v, asB_b, asI_i, asT_t, asL_l, hasL_l, one_1, two_2, int1_1, int2_2, int3_3, ix0, ix1, Slot.fr?, Slot.m?, Slot.put, opz_f1, o_iop, b_lt, o_addI, o_addS, o_addT, o_addL, o_mulI, o_mulT, o_mulL, o_ixL, o_ixT, o_ixW, o_ixC, o_ixS, o_slL, o_slT, o_slS, o_lenL, o_lenT, o_lenW, o_lenC, o_lenD, o_lenS, o_abs, o_intI, o_intB, o_str, o_list, o_tupL, o_tupT, o_isN, o_isNotN, o_isTy, o_neg, t_non, t_bl, t_int, t_str, t_lst, t_tup, t_wtu, t_dic, i_lst, i_tup, i_wtu, i_scr, i_str, q_lst, q_scr, q_tup, q_wtu, o_sort, o_inL, o_inT, o_eqI, o_neI, o_all, o_any, o_sum, o_max2, o_min2, o_eqB, o_neB, o_ixD, o_ixDi, p_str, p_int, s_frzD, hasD_md, small_md, D.seqs, D.tyN, List.getElem?_cons_zero, List.getElem?_cons_succ, List.set_cons_zero, List.set_cons_succ, List.map_cons, List.map_nil, Option.bind_some, Option.map_some, true_and, and_true, and_assoc, startD, Bool.not_true, Bool.not_false, List.length_cons, List.length_nil, List.nil_append, List.cons_append, List.append_nil, List.replicate, Nat.reduceSub, Nat.reduceAdd, Nat.reduceLeDiff, wipeD, unw, freeAt, Option.getD_some, List.all_cons, List.all_nil, Bool.and_true, Bool.and_self, Slot.free, Nat.zero_sub, Nat.sub_zero, Nat.sub_self, Nat.reduceEqDiff, id_eq, decide_true, decide_false, eq_self, c__law_longest, c__law_next, c__law_subsets, c__law_take, c__law_tape, c_both_spoilt, c_least_reads, c_longest_unseen, c_next_read, c_staggered, c_takes_reads, T.x_InvalidPlan.ex]
  refine ⟨by omega, by omega, ?_⟩
  rw [rng_isq]
  refine lcR_mapE (fun s => s = [.v (.fz (.scr ns)), .v tp, .v (.fz (.int p)), .v (.ml [tupI A, tupI C]), .v (.fz (.int (0 + ((4 : Nat) : Int)))), .v (.fz (.int (lg p A))), .v (.fz (.int L)), .v (.fz d7), d, .v (.fz (.lst (zs.map tupI))), g, .v (.fz (.int wd)), .v (.fz (tupI (0 :: wr))), .v (.fz (.int kk)), .v (.fz (tupI (spr p kk.toNat))), .un, .un, b, c, e, f, .un]) (fun x => .int (((spr p kk.toNat ++ [p]).getD (x.toNat + 1) 0) - (spr p kk.toNat).getD x.toNat 0)) (by rw [isq_len]; unfold sizeLine; omega) rfl ?_ ?_
  · rintro x hx s rfl R hR
    have hxm := isq_mem.mp hx
    unfold tupI
    simp -dsimp only [↓s_var, ↓s_c, ↓s_op, ↓s_test, ↓s_truth, ↓s_chain, ↓s_and, ↓s_or, ↓s_not, ↓s_andV, ↓s_orV, ↓s_notV, ↓s_if, ↓s_un, ↓s_nil, ↓s_cons, ↓s_cb, ↓s_call, ↓s_tup, ↓s_lst, ↓s_nopart, ↓s_part, ↓s_sl, ↓s_app, ↓s_items, ↓s_rng1, ↓s_rng2, ↓s_rng3, ↓s_next, ↓s_seq, ↓s_break, ↓s_cont, ↓s_drop, ↓s_ret, ↓s_retN, ↓s_ifS, ↓s_asg, ↓s_gNm, ↓s_gTup, ↓s_gNil, ↓s_gCons, ↓s_aug, ↓s_par, ↓s_for, ↓s_while, ↓s_lc, ↓s_lc2, ↓s_yes, ↓s_tvs0, ↓s_tvs1, ↓s_tvV, ↓s_tvS, ↓s_rvV, ↓s_rvS, ↓s_enum, ↓s_zip, ↓s_callIO, ↓fin_t, pins_nil, pins_p, pins_v, pins_un, lent1, slotL_s, ↓putB_1, ↓s_setI, ↓s_dput, ↓s_daug, ↓s_dnew, ↓s_disp, ↓s_flat0, ↓s_flat1, ↓s_never, ↓s_raise, ↓s_neverE, mkD, D.key, Option.map_some, dgetM, ↓br_t, ↓br_f, ↓s_fin0, ↓s_ref, ↓s_tupRg, ↓s_lstRg, ↓s_rg1, ↓s_rg2, hide, hideS, s_resV, s_resS, s_resL0, s_resL1, s_slotM, s_setM, s_frz, s_frzL, wD_some, got_v, got_p, ↓gset_un, ↓gset_v, vslot_v, fslot_v, asB_b, asI_i, asT_t, asL_l, hasL_l, one_1, two_2, int1_1, int2_2, int3_3, ix0, ix1, Slot.fr?, Slot.m?, Slot.put, opz_f1, o_iop, b_lt, o_addI, o_addS, o_addT, o_addL, o_mulI, o_mulT, o_mulL, o_ixL, o_ixT, o_ixW, o_ixC, o_ixS, o_slL, o_slT, o_slS, o_lenL, o_lenT, o_lenW, o_lenC, o_lenD, o_lenS, o_abs, o_intI, o_intB, o_str, o_list, o_tupL, o_tupT, o_isN, o_isNotN, o_isTy, o_neg, t_non, t_bl, t_int, t_str, t_lst, t_tup, t_wtu, t_dic, i_lst, i_tup, i_wtu, i_scr, i_str, q_lst, q_scr, q_tup, q_wtu, o_sort, o_inL, o_inT, o_eqI, o_neI, o_all, o_any, o_sum, o_max2, o_min2, o_eqB, o_neB, o_ixD, o_ixDi, p_str, p_int, s_frzD, hasD_md, small_md, D.seqs, D.tyN, List.getElem?_cons_zero, List.getElem?_cons_succ, List.set_cons_zero, List.set_cons_succ, List.map_cons, List.map_nil, Option.bind_some, Option.map_some, true_and, and_true, and_assoc, startD, Bool.not_true, Bool.not_false, List.length_cons, List.length_nil, List.nil_append, List.cons_append, List.append_nil, List.replicate, Nat.reduceSub, Nat.reduceAdd, Nat.reduceLeDiff, wipeD, unw, freeAt, Option.getD_some, List.all_cons, List.all_nil, Bool.and_true, Bool.and_self, Slot.free, Nat.zero_sub, Nat.sub_zero, Nat.sub_self, Nat.reduceEqDiff, id_eq, decide_true, decide_false, eq_self, c__law_longest, c__law_next, c__law_subsets, c__law_take, c__law_tape, c_both_spoilt, c_least_reads, c_longest_unseen, c_next_read, c_staggered, c_takes_reads, T.x_InvalidPlan.ex]
    refine ⟨by decide, by rw [List.length_map, slen]; unfold sizeLine; omega, ?_⟩
    rw [show List.map D.int (spr p kk.toNat) ++ [D.int p] = (spr p kk.toNat ++ [p]).map D.int by simp]
    refine wD_of (atI_map 0 (by omega) (by rw [List.length_append, slen]; simp; omega)) ?_
    simp -dsimp only [↓s_var, ↓s_c, ↓s_op, ↓s_test, ↓s_truth, ↓s_chain, ↓s_and, ↓s_or, ↓s_not, ↓s_andV, ↓s_orV, ↓s_notV, ↓s_if, ↓s_un, ↓s_nil, ↓s_cons, ↓s_cb, ↓s_call, ↓s_tup, ↓s_lst, ↓s_nopart, ↓s_part, ↓s_sl, ↓s_app, ↓s_items, ↓s_rng1, ↓s_rng2, ↓s_rng3, ↓s_next, ↓s_seq, ↓s_break, ↓s_cont, ↓s_drop, ↓s_ret, ↓s_retN, ↓s_ifS, ↓s_asg, ↓s_gNm, ↓s_gTup, ↓s_gNil, ↓s_gCons, ↓s_aug, ↓s_par, ↓s_for, ↓s_while, ↓s_lc, ↓s_lc2, ↓s_yes, ↓s_tvs0, ↓s_tvs1, ↓s_tvV, ↓s_tvS, ↓s_rvV, ↓s_rvS, ↓s_enum, ↓s_zip, ↓s_callIO, ↓fin_t, pins_nil, pins_p, pins_v, pins_un, lent1, slotL_s, ↓putB_1, ↓s_setI, ↓s_dput, ↓s_daug, ↓s_dnew, ↓s_disp, ↓s_flat0, ↓s_flat1, ↓s_never, ↓s_raise, ↓s_neverE, mkD, D.key, Option.map_some, dgetM, ↓br_t, ↓br_f, ↓s_fin0, ↓s_ref, ↓s_tupRg, ↓s_lstRg, ↓s_rg1, ↓s_rg2, hide, hideS, s_resV, s_resS, s_resL0, s_resL1, s_slotM, s_setM, s_frz, s_frzL, wD_some, got_v, got_p, ↓gset_un, ↓gset_v, vslot_v, fslot_v, asB_b, asI_i, asT_t, asL_l, hasL_l, one_1, two_2, int1_1, int2_2, int3_3, ix0, ix1, Slot.fr?, Slot.m?, Slot.put, opz_f1, o_iop, b_lt, o_addI, o_addS, o_addT, o_addL, o_mulI, o_mulT, o_mulL, o_ixL, o_ixT, o_ixW, o_ixC, o_ixS, o_slL, o_slT, o_slS, o_lenL, o_lenT, o_lenW, o_lenC, o_lenD, o_lenS, o_abs, o_intI, o_intB, o_str, o_list, o_tupL, o_tupT, o_isN, o_isNotN, o_isTy, o_neg, t_non, t_bl, t_int, t_str, t_lst, t_tup, t_wtu, t_dic, i_lst, i_tup, i_wtu, i_scr, i_str, q_lst, q_scr, q_tup, q_wtu, o_sort, o_inL, o_inT, o_eqI, o_neI, o_all, o_any, o_sum, o_max2, o_min2, o_eqB, o_neB, o_ixD, o_ixDi, p_str, p_int, s_frzD, hasD_md, small_md, D.seqs, D.tyN, List.getElem?_cons_zero, List.getElem?_cons_succ, List.set_cons_zero, List.set_cons_succ, List.map_cons, List.map_nil, Option.bind_some, Option.map_some, true_and, and_true, and_assoc, startD, Bool.not_true, Bool.not_false, List.length_cons, List.length_nil, List.nil_append, List.cons_append, List.append_nil, List.replicate, Nat.reduceSub, Nat.reduceAdd, Nat.reduceLeDiff, wipeD, unw, freeAt, Option.getD_some, List.all_cons, List.all_nil, Bool.and_true, Bool.and_self, Slot.free, Nat.zero_sub, Nat.sub_zero, Nat.sub_self, Nat.reduceEqDiff, id_eq, decide_true, decide_false, eq_self, c__law_longest, c__law_next, c__law_subsets, c__law_take, c__law_tape, c_both_spoilt, c_least_reads, c_longest_unseen, c_next_read, c_staggered, c_takes_reads, T.x_InvalidPlan.ex]
    refine wD_of (atI_map 0 (by omega) (by rw [slen]; omega)) ?_
    simp -dsimp only [↓s_var, ↓s_c, ↓s_op, ↓s_test, ↓s_truth, ↓s_chain, ↓s_and, ↓s_or, ↓s_not, ↓s_andV, ↓s_orV, ↓s_notV, ↓s_if, ↓s_un, ↓s_nil, ↓s_cons, ↓s_cb, ↓s_call, ↓s_tup, ↓s_lst, ↓s_nopart, ↓s_part, ↓s_sl, ↓s_app, ↓s_items, ↓s_rng1, ↓s_rng2, ↓s_rng3, ↓s_next, ↓s_seq, ↓s_break, ↓s_cont, ↓s_drop, ↓s_ret, ↓s_retN, ↓s_ifS, ↓s_asg, ↓s_gNm, ↓s_gTup, ↓s_gNil, ↓s_gCons, ↓s_aug, ↓s_par, ↓s_for, ↓s_while, ↓s_lc, ↓s_lc2, ↓s_yes, ↓s_tvs0, ↓s_tvs1, ↓s_tvV, ↓s_tvS, ↓s_rvV, ↓s_rvS, ↓s_enum, ↓s_zip, ↓s_callIO, ↓fin_t, pins_nil, pins_p, pins_v, pins_un, lent1, slotL_s, ↓putB_1, ↓s_setI, ↓s_dput, ↓s_daug, ↓s_dnew, ↓s_disp, ↓s_flat0, ↓s_flat1, ↓s_never, ↓s_raise, ↓s_neverE, mkD, D.key, Option.map_some, dgetM, ↓br_t, ↓br_f, ↓s_fin0, ↓s_ref, ↓s_tupRg, ↓s_lstRg, ↓s_rg1, ↓s_rg2, hide, hideS, s_resV, s_resS, s_resL0, s_resL1, s_slotM, s_setM, s_frz, s_frzL, wD_some, got_v, got_p, ↓gset_un, ↓gset_v, vslot_v, fslot_v, asB_b, asI_i, asT_t, asL_l, hasL_l, one_1, two_2, int1_1, int2_2, int3_3, ix0, ix1, Slot.fr?, Slot.m?, Slot.put, opz_f1, o_iop, b_lt, o_addI, o_addS, o_addT, o_addL, o_mulI, o_mulT, o_mulL, o_ixL, o_ixT, o_ixW, o_ixC, o_ixS, o_slL, o_slT, o_slS, o_lenL, o_lenT, o_lenW, o_lenC, o_lenD, o_lenS, o_abs, o_intI, o_intB, o_str, o_list, o_tupL, o_tupT, o_isN, o_isNotN, o_isTy, o_neg, t_non, t_bl, t_int, t_str, t_lst, t_tup, t_wtu, t_dic, i_lst, i_tup, i_wtu, i_scr, i_str, q_lst, q_scr, q_tup, q_wtu, o_sort, o_inL, o_inT, o_eqI, o_neI, o_all, o_any, o_sum, o_max2, o_min2, o_eqB, o_neB, o_ixD, o_ixDi, p_str, p_int, s_frzD, hasD_md, small_md, D.seqs, D.tyN, List.getElem?_cons_zero, List.getElem?_cons_succ, List.set_cons_zero, List.set_cons_succ, List.map_cons, List.map_nil, Option.bind_some, Option.map_some, true_and, and_true, and_assoc, startD, Bool.not_true, Bool.not_false, List.length_cons, List.length_nil, List.nil_append, List.cons_append, List.append_nil, List.replicate, Nat.reduceSub, Nat.reduceAdd, Nat.reduceLeDiff, wipeD, unw, freeAt, Option.getD_some, List.all_cons, List.all_nil, Bool.and_true, Bool.and_self, Slot.free, Nat.zero_sub, Nat.sub_zero, Nat.sub_self, Nat.reduceEqDiff, id_eq, decide_true, decide_false, eq_self, c__law_longest, c__law_next, c__law_subsets, c__law_take, c__law_tape, c_both_spoilt, c_least_reads, c_longest_unseen, c_next_read, c_staggered, c_takes_reads, T.x_InvalidPlan.ex]
    refine hR _ _ ?_ rfl
    rw [show (x + 1).toNat = x.toNat + 1 by omega]
    rfl
  rintro s' rfl
  have e15 : (isq 0 kk.toNat).map (fun x => D.int (((spr p kk.toNat ++ [p]).getD (x.toNat + 1) 0) - (spr p kk.toNat).getD x.toNat 0)) = (stepsOf p kk.toNat).map D.int := by
    unfold isq stepsOf
    rw [List.map_map, List.map_map]
    refine List.map_congr_left fun i _ => ?_
    simp
  rw [e15]
  have sne : stepsOf p kk.toNat ≠ [] := by
    intro h
    have := congrArg List.length h
    simp [stepsOf] at this
    omega
  unfold tupI
  simp -dsimp only [↓s_var, ↓s_c, ↓s_op, ↓s_test, ↓s_truth, ↓s_chain, ↓s_and, ↓s_or, ↓s_not, ↓s_andV, ↓s_orV, ↓s_notV, ↓s_if, ↓s_un, ↓s_nil, ↓s_cons, ↓s_cb, ↓s_call, ↓s_tup, ↓s_lst, ↓s_nopart, ↓s_part, ↓s_sl, ↓s_app, ↓s_items, ↓s_rng1, ↓s_rng2, ↓s_rng3, ↓s_next, ↓s_seq, ↓s_break, ↓s_cont, ↓s_drop, ↓s_ret, ↓s_retN, ↓s_ifS, ↓s_asg, ↓s_gNm, ↓s_gTup, ↓s_gNil, ↓s_gCons, ↓s_aug, ↓s_par, ↓s_for, ↓s_while, ↓s_lc, ↓s_lc2, ↓s_yes, ↓s_tvs0, ↓s_tvs1, ↓s_tvV, ↓s_tvS, ↓s_rvV, ↓s_rvS, ↓s_enum, ↓s_zip, ↓s_callIO, ↓fin_t, pins_nil, pins_p, pins_v, pins_un, lent1, slotL_s, ↓putB_1, ↓s_setI, ↓s_dput, ↓s_daug, ↓s_dnew, ↓s_disp, ↓s_flat0, ↓s_flat1, ↓s_never, ↓s_raise, ↓s_neverE, mkD, D.key, Option.map_some, dgetM, ↓br_t, ↓br_f, ↓s_fin0, ↓s_ref, ↓s_tupRg, ↓s_lstRg, ↓s_rg1, ↓s_rg2, hide, hideS, s_resV, s_resS, s_resL0, s_resL1, s_slotM, s_setM, s_frz, s_frzL, wD_some, got_v, got_p, ↓gset_un, ↓gset_v, vslot_v, fslot_v, asB_b, asI_i, asT_t, asL_l, hasL_l, one_1, two_2, int1_1, int2_2, int3_3, ix0, ix1, Slot.fr?, Slot.m?, Slot.put, opz_f1, o_iop, b_lt, o_addI, o_addS, o_addT, o_addL, o_mulI, o_mulT, o_mulL, o_ixL, o_ixT, o_ixW, o_ixC, o_ixS, o_slL, o_slT, o_slS, o_lenL, o_lenT, o_lenW, o_lenC, o_lenD, o_lenS, o_abs, o_intI, o_intB, o_str, o_list, o_tupL, o_tupT, o_isN, o_isNotN, o_isTy, o_neg, t_non, t_bl, t_int, t_str, t_lst, t_tup, t_wtu, t_dic, i_lst, i_tup, i_wtu, i_scr, i_str, q_lst, q_scr, q_tup, q_wtu, o_sort, o_inL, o_inT, o_eqI, o_neI, o_all, o_any, o_sum, o_max2, o_min2, o_eqB, o_neB, o_ixD, o_ixDi, p_str, p_int, s_frzD, hasD_md, small_md, D.seqs, D.tyN, List.getElem?_cons_zero, List.getElem?_cons_succ, List.set_cons_zero, List.set_cons_succ, List.map_cons, List.map_nil, Option.bind_some, Option.map_some, true_and, and_true, and_assoc, startD, Bool.not_true, Bool.not_false, List.length_cons, List.length_nil, List.nil_append, List.cons_append, List.append_nil, List.replicate, Nat.reduceSub, Nat.reduceAdd, Nat.reduceLeDiff, wipeD, unw, freeAt, Option.getD_some, List.all_cons, List.all_nil, Bool.and_true, Bool.and_self, Slot.free, Nat.zero_sub, Nat.sub_zero, Nat.sub_self, Nat.reduceEqDiff, id_eq, decide_true, decide_false, eq_self, c__law_longest, c__law_next, c__law_subsets, c__law_take, c__law_tape, c_both_spoilt, c_least_reads, c_longest_unseen, c_next_read, c_staggered, c_takes_reads, T.x_InvalidPlan.ex]
  rw [List.length_map, slen]
  refine br_ndec (fun h => absurd (by omega) h) (fun _ => ?_)
  simp -dsimp only [↓s_var, ↓s_c, ↓s_op, ↓s_test, ↓s_truth, ↓s_chain, ↓s_and, ↓s_or, ↓s_not, ↓s_andV, ↓s_orV, ↓s_notV, ↓s_if, ↓s_un, ↓s_nil, ↓s_cons, ↓s_cb, ↓s_call, ↓s_tup, ↓s_lst, ↓s_nopart, ↓s_part, ↓s_sl, ↓s_app, ↓s_items, ↓s_rng1, ↓s_rng2, ↓s_rng3, ↓s_next, ↓s_seq, ↓s_break, ↓s_cont, ↓s_drop, ↓s_ret, ↓s_retN, ↓s_ifS, ↓s_asg, ↓s_gNm, ↓s_gTup, ↓s_gNil, ↓s_gCons, ↓s_aug, ↓s_par, ↓s_for, ↓s_while, ↓s_lc, ↓s_lc2, ↓s_yes, ↓s_tvs0, ↓s_tvs1, ↓s_tvV, ↓s_tvS, ↓s_rvV, ↓s_rvS, ↓s_enum, ↓s_zip, ↓s_callIO, ↓fin_t, pins_nil, pins_p, pins_v, pins_un, lent1, slotL_s, ↓putB_1, ↓s_setI, ↓s_dput, ↓s_daug, ↓s_dnew, ↓s_disp, ↓s_flat0, ↓s_flat1, ↓s_never, ↓s_raise, ↓s_neverE, mkD, D.key, Option.map_some, dgetM, ↓br_t, ↓br_f, ↓s_fin0, ↓s_ref, ↓s_tupRg, ↓s_lstRg, ↓s_rg1, ↓s_rg2, hide, hideS, s_resV, s_resS, s_resL0, s_resL1, s_slotM, s_setM, s_frz, s_frzL, wD_some, got_v, got_p, ↓gset_un, ↓gset_v, vslot_v, fslot_v, asB_b, asI_i, asT_t, asL_l, hasL_l, one_1, two_2, int1_1, int2_2, int3_3, ix0, ix1, Slot.fr?, Slot.m?, Slot.put, opz_f1, o_iop, b_lt, o_addI, o_addS, o_addT, o_addL, o_mulI, o_mulT, o_mulL, o_ixL, o_ixT, o_ixW, o_ixC, o_ixS, o_slL, o_slT, o_slS, o_lenL, o_lenT, o_lenW, o_lenC, o_lenD, o_lenS, o_abs, o_intI, o_intB, o_str, o_list, o_tupL, o_tupT, o_isN, o_isNotN, o_isTy, o_neg, t_non, t_bl, t_int, t_str, t_lst, t_tup, t_wtu, t_dic, i_lst, i_tup, i_wtu, i_scr, i_str, q_lst, q_scr, q_tup, q_wtu, o_sort, o_inL, o_inT, o_eqI, o_neI, o_all, o_any, o_sum, o_max2, o_min2, o_eqB, o_neB, o_ixD, o_ixDi, p_str, p_int, s_frzD, hasD_md, small_md, D.seqs, D.tyN, List.getElem?_cons_zero, List.getElem?_cons_succ, List.set_cons_zero, List.set_cons_succ, List.map_cons, List.map_nil, Option.bind_some, Option.map_some, true_and, and_true, and_assoc, startD, Bool.not_true, Bool.not_false, List.length_cons, List.length_nil, List.nil_append, List.cons_append, List.append_nil, List.replicate, Nat.reduceSub, Nat.reduceAdd, Nat.reduceLeDiff, wipeD, unw, freeAt, Option.getD_some, List.all_cons, List.all_nil, Bool.and_true, Bool.and_self, Slot.free, Nat.zero_sub, Nat.sub_zero, Nat.sub_self, Nat.reduceEqDiff, id_eq, decide_true, decide_false, eq_self, c__law_longest, c__law_next, c__law_subsets, c__law_take, c__law_tape, c_both_spoilt, c_least_reads, c_longest_unseen, c_next_read, c_staggered, c_takes_reads, T.x_InvalidPlan.ex]
  refine wD_of (show atI (List.map D.int (spr p kk.toNat)) 0 = some (.int 0) by rw [s1]; exact ix0) ?_
  simp -dsimp only [↓s_var, ↓s_c, ↓s_op, ↓s_test, ↓s_truth, ↓s_chain, ↓s_and, ↓s_or, ↓s_not, ↓s_andV, ↓s_orV, ↓s_notV, ↓s_if, ↓s_un, ↓s_nil, ↓s_cons, ↓s_cb, ↓s_call, ↓s_tup, ↓s_lst, ↓s_nopart, ↓s_part, ↓s_sl, ↓s_app, ↓s_items, ↓s_rng1, ↓s_rng2, ↓s_rng3, ↓s_next, ↓s_seq, ↓s_break, ↓s_cont, ↓s_drop, ↓s_ret, ↓s_retN, ↓s_ifS, ↓s_asg, ↓s_gNm, ↓s_gTup, ↓s_gNil, ↓s_gCons, ↓s_aug, ↓s_par, ↓s_for, ↓s_while, ↓s_lc, ↓s_lc2, ↓s_yes, ↓s_tvs0, ↓s_tvs1, ↓s_tvV, ↓s_tvS, ↓s_rvV, ↓s_rvS, ↓s_enum, ↓s_zip, ↓s_callIO, ↓fin_t, pins_nil, pins_p, pins_v, pins_un, lent1, slotL_s, ↓putB_1, ↓s_setI, ↓s_dput, ↓s_daug, ↓s_dnew, ↓s_disp, ↓s_flat0, ↓s_flat1, ↓s_never, ↓s_raise, ↓s_neverE, mkD, D.key, Option.map_some, dgetM, ↓br_t, ↓br_f, ↓s_fin0, ↓s_ref, ↓s_tupRg, ↓s_lstRg, ↓s_rg1, ↓s_rg2, hide, hideS, s_resV, s_resS, s_resL0, s_resL1, s_slotM, s_setM, s_frz, s_frzL, wD_some, got_v, got_p, ↓gset_un, ↓gset_v, vslot_v, fslot_v, asB_b, asI_i, asT_t, asL_l, hasL_l, one_1, two_2, int1_1, int2_2, int3_3, ix0, ix1, Slot.fr?, Slot.m?, Slot.put, opz_f1, o_iop, b_lt, o_addI, o_addS, o_addT, o_addL, o_mulI, o_mulT, o_mulL, o_ixL, o_ixT, o_ixW, o_ixC, o_ixS, o_slL, o_slT, o_slS, o_lenL, o_lenT, o_lenW, o_lenC, o_lenD, o_lenS, o_abs, o_intI, o_intB, o_str, o_list, o_tupL, o_tupT, o_isN, o_isNotN, o_isTy, o_neg, t_non, t_bl, t_int, t_str, t_lst, t_tup, t_wtu, t_dic, i_lst, i_tup, i_wtu, i_scr, i_str, q_lst, q_scr, q_tup, q_wtu, o_sort, o_inL, o_inT, o_eqI, o_neI, o_all, o_any, o_sum, o_max2, o_min2, o_eqB, o_neB, o_ixD, o_ixDi, p_str, p_int, s_frzD, hasD_md, small_md, D.seqs, D.tyN, List.getElem?_cons_zero, List.getElem?_cons_succ, List.set_cons_zero, List.set_cons_succ, List.map_cons, List.map_nil, Option.bind_some, Option.map_some, true_and, and_true, and_assoc, startD, Bool.not_true, Bool.not_false, List.length_cons, List.length_nil, List.nil_append, List.cons_append, List.append_nil, List.replicate, Nat.reduceSub, Nat.reduceAdd, Nat.reduceLeDiff, wipeD, unw, freeAt, Option.getD_some, List.all_cons, List.all_nil, Bool.and_true, Bool.and_self, Slot.free, Nat.zero_sub, Nat.sub_zero, Nat.sub_self, Nat.reduceEqDiff, id_eq, decide_true, decide_false, eq_self, c__law_longest, c__law_next, c__law_subsets, c__law_take, c__law_tape, c_both_spoilt, c_least_reads, c_longest_unseen, c_next_read, c_staggered, c_takes_reads, T.x_InvalidPlan.ex]
  refine max_of (intL_map _) (lmax_mem sne) (fun y hy => lmax_le hy) ?_
  simp -dsimp only [↓s_var, ↓s_c, ↓s_op, ↓s_test, ↓s_truth, ↓s_chain, ↓s_and, ↓s_or, ↓s_not, ↓s_andV, ↓s_orV, ↓s_notV, ↓s_if, ↓s_un, ↓s_nil, ↓s_cons, ↓s_cb, ↓s_call, ↓s_tup, ↓s_lst, ↓s_nopart, ↓s_part, ↓s_sl, ↓s_app, ↓s_items, ↓s_rng1, ↓s_rng2, ↓s_rng3, ↓s_next, ↓s_seq, ↓s_break, ↓s_cont, ↓s_drop, ↓s_ret, ↓s_retN, ↓s_ifS, ↓s_asg, ↓s_gNm, ↓s_gTup, ↓s_gNil, ↓s_gCons, ↓s_aug, ↓s_par, ↓s_for, ↓s_while, ↓s_lc, ↓s_lc2, ↓s_yes, ↓s_tvs0, ↓s_tvs1, ↓s_tvV, ↓s_tvS, ↓s_rvV, ↓s_rvS, ↓s_enum, ↓s_zip, ↓s_callIO, ↓fin_t, pins_nil, pins_p, pins_v, pins_un, lent1, slotL_s, ↓putB_1, ↓s_setI, ↓s_dput, ↓s_daug, ↓s_dnew, ↓s_disp, ↓s_flat0, ↓s_flat1, ↓s_never, ↓s_raise, ↓s_neverE, mkD, D.key, Option.map_some, dgetM, ↓br_t, ↓br_f, ↓s_fin0, ↓s_ref, ↓s_tupRg, ↓s_lstRg, ↓s_rg1, ↓s_rg2, hide, hideS, s_resV, s_resS, s_resL0, s_resL1, s_slotM, s_setM, s_frz, s_frzL, wD_some, got_v, got_p, ↓gset_un, ↓gset_v, vslot_v, fslot_v, asB_b, asI_i, asT_t, asL_l, hasL_l, one_1, two_2, int1_1, int2_2, int3_3, ix0, ix1, Slot.fr?, Slot.m?, Slot.put, opz_f1, o_iop, b_lt, o_addI, o_addS, o_addT, o_addL, o_mulI, o_mulT, o_mulL, o_ixL, o_ixT, o_ixW, o_ixC, o_ixS, o_slL, o_slT, o_slS, o_lenL, o_lenT, o_lenW, o_lenC, o_lenD, o_lenS, o_abs, o_intI, o_intB, o_str, o_list, o_tupL, o_tupT, o_isN, o_isNotN, o_isTy, o_neg, t_non, t_bl, t_int, t_str, t_lst, t_tup, t_wtu, t_dic, i_lst, i_tup, i_wtu, i_scr, i_str, q_lst, q_scr, q_tup, q_wtu, o_sort, o_inL, o_inT, o_eqI, o_neI, o_all, o_any, o_sum, o_max2, o_min2, o_eqB, o_neB, o_ixD, o_ixDi, p_str, p_int, s_frzD, hasD_md, small_md, D.seqs, D.tyN, List.getElem?_cons_zero, List.getElem?_cons_succ, List.set_cons_zero, List.set_cons_succ, List.map_cons, List.map_nil, Option.bind_some, Option.map_some, true_and, and_true, and_assoc, startD, Bool.not_true, Bool.not_false, List.length_cons, List.length_nil, List.nil_append, List.cons_append, List.append_nil, List.replicate, Nat.reduceSub, Nat.reduceAdd, Nat.reduceLeDiff, wipeD, unw, freeAt, Option.getD_some, List.all_cons, List.all_nil, Bool.and_true, Bool.and_self, Slot.free, Nat.zero_sub, Nat.sub_zero, Nat.sub_self, Nat.reduceEqDiff, id_eq, decide_true, decide_false, eq_self, c__law_longest, c__law_next, c__law_subsets, c__law_take, c__law_tape, c_both_spoilt, c_least_reads, c_longest_unseen, c_next_read, c_staggered, c_takes_reads, T.x_InvalidPlan.ex]
  refine min_of (intL_map _) (lmin_mem sne) (fun y hy => lmin_le hy) ?_
  simp -dsimp only [↓s_var, ↓s_c, ↓s_op, ↓s_test, ↓s_truth, ↓s_chain, ↓s_and, ↓s_or, ↓s_not, ↓s_andV, ↓s_orV, ↓s_notV, ↓s_if, ↓s_un, ↓s_nil, ↓s_cons, ↓s_cb, ↓s_call, ↓s_tup, ↓s_lst, ↓s_nopart, ↓s_part, ↓s_sl, ↓s_app, ↓s_items, ↓s_rng1, ↓s_rng2, ↓s_rng3, ↓s_next, ↓s_seq, ↓s_break, ↓s_cont, ↓s_drop, ↓s_ret, ↓s_retN, ↓s_ifS, ↓s_asg, ↓s_gNm, ↓s_gTup, ↓s_gNil, ↓s_gCons, ↓s_aug, ↓s_par, ↓s_for, ↓s_while, ↓s_lc, ↓s_lc2, ↓s_yes, ↓s_tvs0, ↓s_tvs1, ↓s_tvV, ↓s_tvS, ↓s_rvV, ↓s_rvS, ↓s_enum, ↓s_zip, ↓s_callIO, ↓fin_t, pins_nil, pins_p, pins_v, pins_un, lent1, slotL_s, ↓putB_1, ↓s_setI, ↓s_dput, ↓s_daug, ↓s_dnew, ↓s_disp, ↓s_flat0, ↓s_flat1, ↓s_never, ↓s_raise, ↓s_neverE, mkD, D.key, Option.map_some, dgetM, ↓br_t, ↓br_f, ↓s_fin0, ↓s_ref, ↓s_tupRg, ↓s_lstRg, ↓s_rg1, ↓s_rg2, hide, hideS, s_resV, s_resS, s_resL0, s_resL1, s_slotM, s_setM, s_frz, s_frzL, wD_some, got_v, got_p, ↓gset_un, ↓gset_v, vslot_v, fslot_v, asB_b, asI_i, asT_t, asL_l, hasL_l, one_1, two_2, int1_1, int2_2, int3_3, ix0, ix1, Slot.fr?, Slot.m?, Slot.put, opz_f1, o_iop, b_lt, o_addI, o_addS, o_addT, o_addL, o_mulI, o_mulT, o_mulL, o_ixL, o_ixT, o_ixW, o_ixC, o_ixS, o_slL, o_slT, o_slS, o_lenL, o_lenT, o_lenW, o_lenC, o_lenD, o_lenS, o_abs, o_intI, o_intB, o_str, o_list, o_tupL, o_tupT, o_isN, o_isNotN, o_isTy, o_neg, t_non, t_bl, t_int, t_str, t_lst, t_tup, t_wtu, t_dic, i_lst, i_tup, i_wtu, i_scr, i_str, q_lst, q_scr, q_tup, q_wtu, o_sort, o_inL, o_inT, o_eqI, o_neI, o_all, o_any, o_sum, o_max2, o_min2, o_eqB, o_neB, o_ixD, o_ixDi, p_str, p_int, s_frzD, hasD_md, small_md, D.seqs, D.tyN, List.getElem?_cons_zero, List.getElem?_cons_succ, List.set_cons_zero, List.set_cons_succ, List.map_cons, List.map_nil, Option.bind_some, Option.map_some, true_and, and_true, and_assoc, startD, Bool.not_true, Bool.not_false, List.length_cons, List.length_nil, List.nil_append, List.cons_append, List.append_nil, List.replicate, Nat.reduceSub, Nat.reduceAdd, Nat.reduceLeDiff, wipeD, unw, freeAt, Option.getD_some, List.all_cons, List.all_nil, Bool.and_true, Bool.and_self, Slot.free, Nat.zero_sub, Nat.sub_zero, Nat.sub_self, Nat.reduceEqDiff, id_eq, decide_true, decide_false, eq_self, c__law_longest, c__law_next, c__law_subsets, c__law_take, c__law_tape, c_both_spoilt, c_least_reads, c_longest_unseen, c_next_read, c_staggered, c_takes_reads, T.x_InvalidPlan.ex]
  refine br_dec (fun h => by omega) (fun _ => ?_)
  simp -dsimp only [↓s_var, ↓s_c, ↓s_op, ↓s_test, ↓s_truth, ↓s_chain, ↓s_and, ↓s_or, ↓s_not, ↓s_andV, ↓s_orV, ↓s_notV, ↓s_if, ↓s_un, ↓s_nil, ↓s_cons, ↓s_cb, ↓s_call, ↓s_tup, ↓s_lst, ↓s_nopart, ↓s_part, ↓s_sl, ↓s_app, ↓s_items, ↓s_rng1, ↓s_rng2, ↓s_rng3, ↓s_next, ↓s_seq, ↓s_break, ↓s_cont, ↓s_drop, ↓s_ret, ↓s_retN, ↓s_ifS, ↓s_asg, ↓s_gNm, ↓s_gTup, ↓s_gNil, ↓s_gCons, ↓s_aug, ↓s_par, ↓s_for, ↓s_while, ↓s_lc, ↓s_lc2, ↓s_yes, ↓s_tvs0, ↓s_tvs1, ↓s_tvV, ↓s_tvS, ↓s_rvV, ↓s_rvS, ↓s_enum, ↓s_zip, ↓s_callIO, ↓fin_t, pins_nil, pins_p, pins_v, pins_un, lent1, slotL_s, ↓putB_1, ↓s_setI, ↓s_dput, ↓s_daug, ↓s_dnew, ↓s_disp, ↓s_flat0, ↓s_flat1, ↓s_never, ↓s_raise, ↓s_neverE, mkD, D.key, Option.map_some, dgetM, ↓br_t, ↓br_f, ↓s_fin0, ↓s_ref, ↓s_tupRg, ↓s_lstRg, ↓s_rg1, ↓s_rg2, hide, hideS, s_resV, s_resS, s_resL0, s_resL1, s_slotM, s_setM, s_frz, s_frzL, wD_some, got_v, got_p, ↓gset_un, ↓gset_v, vslot_v, fslot_v, asB_b, asI_i, asT_t, asL_l, hasL_l, one_1, two_2, int1_1, int2_2, int3_3, ix0, ix1, Slot.fr?, Slot.m?, Slot.put, opz_f1, o_iop, b_lt, o_addI, o_addS, o_addT, o_addL, o_mulI, o_mulT, o_mulL, o_ixL, o_ixT, o_ixW, o_ixC, o_ixS, o_slL, o_slT, o_slS, o_lenL, o_lenT, o_lenW, o_lenC, o_lenD, o_lenS, o_abs, o_intI, o_intB, o_str, o_list, o_tupL, o_tupT, o_isN, o_isNotN, o_isTy, o_neg, t_non, t_bl, t_int, t_str, t_lst, t_tup, t_wtu, t_dic, i_lst, i_tup, i_wtu, i_scr, i_str, q_lst, q_scr, q_tup, q_wtu, o_sort, o_inL, o_inT, o_eqI, o_neI, o_all, o_any, o_sum, o_max2, o_min2, o_eqB, o_neB, o_ixD, o_ixDi, p_str, p_int, s_frzD, hasD_md, small_md, D.seqs, D.tyN, List.getElem?_cons_zero, List.getElem?_cons_succ, List.set_cons_zero, List.set_cons_succ, List.map_cons, List.map_nil, Option.bind_some, Option.map_some, true_and, and_true, and_assoc, startD, Bool.not_true, Bool.not_false, List.length_cons, List.length_nil, List.nil_append, List.cons_append, List.append_nil, List.replicate, Nat.reduceSub, Nat.reduceAdd, Nat.reduceLeDiff, wipeD, unw, freeAt, Option.getD_some, List.all_cons, List.all_nil, Bool.and_true, Bool.and_self, Slot.free, Nat.zero_sub, Nat.sub_zero, Nat.sub_self, Nat.reduceEqDiff, id_eq, decide_true, decide_false, eq_self, c__law_longest, c__law_next, c__law_subsets, c__law_take, c__law_tape, c_both_spoilt, c_least_reads, c_longest_unseen, c_next_read, c_staggered, c_takes_reads, T.x_InvalidPlan.ex]
  refine ⟨by decide, by decide, by decide, by decide, by decide, by decide, by decide, by decide, by decide, by decide, by decide, by decide, RgOk.of_le (by decide) (by decide) (by decide) (by decide), by decide, by decide, ?_⟩
  rw [show [D.tup [D.int 0, D.tup [D.int 0]], D.tup [D.int 61, D.tup [D.int 0]], D.tup [D.int 5, D.tup []], D.tup [D.int 5, D.tup [D.int 1, D.int 0]], D.tup [D.int 5, D.tup [D.int 5]], D.tup [D.int 5, D.tup [D.int (-1)]], D.tup [D.int 9, D.tup (rng 0 ((9 : Int) - 0).toNat)]] = badL.map prE from rfl]
  generalize hst : DL.Slot.v (M.ml ((stepsOf p kk.toNat).map D.int)) = st
  refine for_ofE (fun i s => ∃ (u : DL.Slot), s = [.v (.fz (.scr ns)), .v tp, .v (.fz (.int p)), .v (.ml [tupI A, tupI C]), .v (.fz (.int (0 + ((4 : Nat) : Int)))), .v (.fz (.int (lg p A))), .v (.fz (.int L)), .v (.fz d7), d, .v (.fz (.lst (zs.map tupI))), g, .v (.fz (.int wd)), .v (.fz (tupI (0 :: wr))), .v (.fz (.int kk)), .v (.fz (tupI (spr p kk.toNat))), st, u, b, c, e, f, .un] ∧ u.pinned = false) ⟨_, rfl, rfl⟩ ?_ ?_
  · rintro i ⟨x, y⟩ s hx ⟨u, rfl, hu⟩ N B R hN - -
    have hbad := badL_bad _ (List.mem_of_getElem? hx)
    unfold prE tupI
    simp -dsimp only [↓s_var, ↓s_c, ↓s_op, ↓s_test, ↓s_truth, ↓s_chain, ↓s_and, ↓s_or, ↓s_not, ↓s_andV, ↓s_orV, ↓s_notV, ↓s_if, ↓s_un, ↓s_nil, ↓s_cons, ↓s_cb, ↓s_call, ↓s_tup, ↓s_lst, ↓s_nopart, ↓s_part, ↓s_sl, ↓s_app, ↓s_items, ↓s_rng1, ↓s_rng2, ↓s_rng3, ↓s_next, ↓s_seq, ↓s_break, ↓s_cont, ↓s_drop, ↓s_ret, ↓s_retN, ↓s_ifS, ↓s_asg, ↓s_gNm, ↓s_gTup, ↓s_gNil, ↓s_gCons, ↓s_aug, ↓s_par, ↓s_for, ↓s_while, ↓s_lc, ↓s_lc2, ↓s_yes, ↓s_tvs0, ↓s_tvs1, ↓s_tvV, ↓s_tvS, ↓s_rvV, ↓s_rvS, ↓s_enum, ↓s_zip, ↓s_callIO, ↓fin_t, pins_nil, pins_p, pins_v, pins_un, lent1, slotL_s, ↓putB_1, ↓s_setI, ↓s_dput, ↓s_daug, ↓s_dnew, ↓s_disp, ↓s_flat0, ↓s_flat1, ↓s_never, ↓s_raise, ↓s_neverE, mkD, D.key, Option.map_some, dgetM, ↓br_t, ↓br_f, ↓s_fin0, ↓s_ref, ↓s_tupRg, ↓s_lstRg, ↓s_rg1, ↓s_rg2, hide, hideS, s_resV, s_resS, s_resL0, s_resL1, s_slotM, s_setM, s_frz, s_frzL, wD_some, got_v, got_p, ↓gset_un, ↓gset_v, vslot_v, fslot_v, asB_b, asI_i, asT_t, asL_l, hasL_l, one_1, two_2, int1_1, int2_2, int3_3, ix0, ix1, Slot.fr?, Slot.m?, Slot.put, opz_f1, o_iop, b_lt, o_addI, o_addS, o_addT, o_addL, o_mulI, o_mulT, o_mulL, o_ixL, o_ixT, o_ixW, o_ixC, o_ixS, o_slL, o_slT, o_slS, o_lenL, o_lenT, o_lenW, o_lenC, o_lenD, o_lenS, o_abs, o_intI, o_intB, o_str, o_list, o_tupL, o_tupT, o_isN, o_isNotN, o_isTy, o_neg, t_non, t_bl, t_int, t_str, t_lst, t_tup, t_wtu, t_dic, i_lst, i_tup, i_wtu, i_scr, i_str, q_lst, q_scr, q_tup, q_wtu, o_sort, o_inL, o_inT, o_eqI, o_neI, o_all, o_any, o_sum, o_max2, o_min2, o_eqB, o_neB, o_ixD, o_ixDi, p_str, p_int, s_frzD, hasD_md, small_md, D.seqs, D.tyN, List.getElem?_cons_zero, List.getElem?_cons_succ, List.set_cons_zero, List.set_cons_succ, List.map_cons, List.map_nil, Option.bind_some, Option.map_some, true_and, and_true, and_assoc, startD, Bool.not_true, Bool.not_false, List.length_cons, List.length_nil, List.nil_append, List.cons_append, List.append_nil, List.replicate, Nat.reduceSub, Nat.reduceAdd, Nat.reduceLeDiff, wipeD, unw, freeAt, Option.getD_some, List.all_cons, List.all_nil, Bool.and_true, Bool.and_self, Slot.free, Nat.zero_sub, Nat.sub_zero, Nat.sub_self, Nat.reduceEqDiff, id_eq, decide_true, decide_false, eq_self, c__law_longest, c__law_next, c__law_subsets, c__law_take, c__law_tape, c_both_spoilt, c_least_reads, c_longest_unseen, c_next_read, c_staggered, c_takes_reads, T.x_InvalidPlan.ex,  gset_free hu]
    refine ⟨y, rfl, hbad.2, fun h => absurd h hbad.1, fun _ => ?_⟩
    try simp -dsimp only [↓s_var, ↓s_c, ↓s_op, ↓s_test, ↓s_truth, ↓s_chain, ↓s_and, ↓s_or, ↓s_not, ↓s_andV, ↓s_orV, ↓s_notV, ↓s_if, ↓s_un, ↓s_nil, ↓s_cons, ↓s_cb, ↓s_call, ↓s_tup, ↓s_lst, ↓s_nopart, ↓s_part, ↓s_sl, ↓s_app, ↓s_items, ↓s_rng1, ↓s_rng2, ↓s_rng3, ↓s_next, ↓s_seq, ↓s_break, ↓s_cont, ↓s_drop, ↓s_ret, ↓s_retN, ↓s_ifS, ↓s_asg, ↓s_gNm, ↓s_gTup, ↓s_gNil, ↓s_gCons, ↓s_aug, ↓s_par, ↓s_for, ↓s_while, ↓s_lc, ↓s_lc2, ↓s_yes, ↓s_tvs0, ↓s_tvs1, ↓s_tvV, ↓s_tvS, ↓s_rvV, ↓s_rvS, ↓s_enum, ↓s_zip, ↓s_callIO, ↓fin_t, pins_nil, pins_p, pins_v, pins_un, lent1, slotL_s, ↓putB_1, ↓s_setI, ↓s_dput, ↓s_daug, ↓s_dnew, ↓s_disp, ↓s_flat0, ↓s_flat1, ↓s_never, ↓s_raise, ↓s_neverE, mkD, D.key, Option.map_some, dgetM, ↓br_t, ↓br_f, ↓s_fin0, ↓s_ref, ↓s_tupRg, ↓s_lstRg, ↓s_rg1, ↓s_rg2, hide, hideS, s_resV, s_resS, s_resL0, s_resL1, s_slotM, s_setM, s_frz, s_frzL, wD_some, got_v, got_p, ↓gset_un, ↓gset_v, vslot_v, fslot_v, asB_b, asI_i, asT_t, asL_l, hasL_l, one_1, two_2, int1_1, int2_2, int3_3, ix0, ix1, Slot.fr?, Slot.m?, Slot.put, opz_f1, o_iop, b_lt, o_addI, o_addS, o_addT, o_addL, o_mulI, o_mulT, o_mulL, o_ixL, o_ixT, o_ixW, o_ixC, o_ixS, o_slL, o_slT, o_slS, o_lenL, o_lenT, o_lenW, o_lenC, o_lenD, o_lenS, o_abs, o_intI, o_intB, o_str, o_list, o_tupL, o_tupT, o_isN, o_isNotN, o_isTy, o_neg, t_non, t_bl, t_int, t_str, t_lst, t_tup, t_wtu, t_dic, i_lst, i_tup, i_wtu, i_scr, i_str, q_lst, q_scr, q_tup, q_wtu, o_sort, o_inL, o_inT, o_eqI, o_neI, o_all, o_any, o_sum, o_max2, o_min2, o_eqB, o_neB, o_ixD, o_ixDi, p_str, p_int, s_frzD, hasD_md, small_md, D.seqs, D.tyN, List.getElem?_cons_zero, List.getElem?_cons_succ, List.set_cons_zero, List.set_cons_succ, List.map_cons, List.map_nil, Option.bind_some, Option.map_some, true_and, and_true, and_assoc, startD, Bool.not_true, Bool.not_false, List.length_cons, List.length_nil, List.nil_append, List.cons_append, List.append_nil, List.replicate, Nat.reduceSub, Nat.reduceAdd, Nat.reduceLeDiff, wipeD, unw, freeAt, Option.getD_some, List.all_cons, List.all_nil, Bool.and_true, Bool.and_self, Slot.free, Nat.zero_sub, Nat.sub_zero, Nat.sub_self, Nat.reduceEqDiff, id_eq, decide_true, decide_false, eq_self, c__law_longest, c__law_next, c__law_subsets, c__law_take, c__law_tape, c_both_spoilt, c_least_reads, c_longest_unseen, c_next_read, c_staggered, c_takes_reads, T.x_InvalidPlan.ex]
    exact hN _ ⟨_, rfl, rfl⟩
  rintro s ⟨u, rfl, hu⟩
  simp -dsimp only [↓s_var, ↓s_c, ↓s_op, ↓s_test, ↓s_truth, ↓s_chain, ↓s_and, ↓s_or, ↓s_not, ↓s_andV, ↓s_orV, ↓s_notV, ↓s_if, ↓s_un, ↓s_nil, ↓s_cons, ↓s_cb, ↓s_call, ↓s_tup, ↓s_lst, ↓s_nopart, ↓s_part, ↓s_sl, ↓s_app, ↓s_items, ↓s_rng1, ↓s_rng2, ↓s_rng3, ↓s_next, ↓s_seq, ↓s_break, ↓s_cont, ↓s_drop, ↓s_ret, ↓s_retN, ↓s_ifS, ↓s_asg, ↓s_gNm, ↓s_gTup, ↓s_gNil, ↓s_gCons, ↓s_aug, ↓s_par, ↓s_for, ↓s_while, ↓s_lc, ↓s_lc2, ↓s_yes, ↓s_tvs0, ↓s_tvs1, ↓s_tvV, ↓s_tvS, ↓s_rvV, ↓s_rvS, ↓s_enum, ↓s_zip, ↓s_callIO, ↓fin_t, pins_nil, pins_p, pins_v, pins_un, lent1, slotL_s, ↓putB_1, ↓s_setI, ↓s_dput, ↓s_daug, ↓s_dnew, ↓s_disp, ↓s_flat0, ↓s_flat1, ↓s_never, ↓s_raise, ↓s_neverE, mkD, D.key, Option.map_some, dgetM, ↓br_t, ↓br_f, ↓s_fin0, ↓s_ref, ↓s_tupRg, ↓s_lstRg, ↓s_rg1, ↓s_rg2, hide, hideS, s_resV, s_resS, s_resL0, s_resL1, s_slotM, s_setM, s_frz, s_frzL, wD_some, got_v, got_p, ↓gset_un, ↓gset_v, vslot_v, fslot_v, asB_b, asI_i, asT_t, asL_l, hasL_l, one_1, two_2, int1_1, int2_2, int3_3, ix0, ix1, Slot.fr?, Slot.m?, Slot.put, opz_f1, o_iop, b_lt, o_addI, o_addS, o_addT, o_addL, o_mulI, o_mulT, o_mulL, o_ixL, o_ixT, o_ixW, o_ixC, o_ixS, o_slL, o_slT, o_slS, o_lenL, o_lenT, o_lenW, o_lenC, o_lenD, o_lenS, o_abs, o_intI, o_intB, o_str, o_list, o_tupL, o_tupT, o_isN, o_isNotN, o_isTy, o_neg, t_non, t_bl, t_int, t_str, t_lst, t_tup, t_wtu, t_dic, i_lst, i_tup, i_wtu, i_scr, i_str, q_lst, q_scr, q_tup, q_wtu, o_sort, o_inL, o_inT, o_eqI, o_neI, o_all, o_any, o_sum, o_max2, o_min2, o_eqB, o_neB, o_ixD, o_ixDi, p_str, p_int, s_frzD, hasD_md, small_md, D.seqs, D.tyN, List.getElem?_cons_zero, List.getElem?_cons_succ, List.set_cons_zero, List.set_cons_succ, List.map_cons, List.map_nil, Option.bind_some, Option.map_some, true_and, and_true, and_assoc, startD, Bool.not_true, Bool.not_false, List.length_cons, List.length_nil, List.nil_append, List.cons_append, List.append_nil, List.replicate, Nat.reduceSub, Nat.reduceAdd, Nat.reduceLeDiff, wipeD, unw, freeAt, Option.getD_some, List.all_cons, List.all_nil, Bool.and_true, Bool.and_self, Slot.free, Nat.zero_sub, Nat.sub_zero, Nat.sub_self, Nat.reduceEqDiff, id_eq, decide_true, decide_false, eq_self, c__law_longest, c__law_next, c__law_subsets, c__law_take, c__law_tape, c_both_spoilt, c_least_reads, c_longest_unseen, c_next_read, c_staggered, c_takes_reads, T.x_InvalidPlan.ex]
  exact ⟨fun h => absurd h (by decide), fun _ => ⟨fun h => absurd h (by decide), fun h => absurd h (by decide), fun _ => ⟨by decide, by decide, fun h => absurd h (by decide), fun _ => ⟨by decide, by decide, fun h => absurd h (by decide), fun _ => q⟩⟩, by decide⟩, fun h => absurd h (by decide), by decide⟩
end
end K73

namespace K73
open PySem PySem.Spec L2 DL
theorem all_mk {l : PySem.W.OpenLaw} {w : World} {K : PySem.W.Frag} {h : Heap} {mg : Str → Option Value} {fa : Addr} (X : K.In h) (G : h.Ns mainGlobals mg) (hfa : mg "law" = some (.ref fa)) (O : LamX.OwnTab K fa h)
    {f0 : Addr} {od0 an0 : Option Addr} {sl0 : Array (Option Value)} {oc0 kV0 dc0 pm0 cd0 ct0 : Value}
    {f1 : Addr} {od1 an1 : Option Addr} {sl1 : Array (Option Value)} {oc1 kV1 dc1 pm1 cd1 ct1 : Value}
    {f2 : Addr} {od2 an2 : Option Addr} {sl2 : Array (Option Value)} {oc2 kV2 dc2 pm2 cd2 ct2 : Value}
    {f3 : Addr} {od3 an3 : Option Addr} {sl3 : Array (Option Value)} {oc3 kV3 dc3 pm3 cd3 ct3 : Value}
    {f4 : Addr} {od4 an4 : Option Addr} {sl4 : Array (Option Value)} {oc4 kV4 dc4 pm4 cd4 ct4 : Value}
    {f5 : Addr} {od5 an5 : Option Addr} {sl5 : Array (Option Value)} {oc5 kV5 dc5 pm5 cd5 ct5 : Value}
    {f6 : Addr} {od6 an6 : Option Addr} {sl6 : Array (Option Value)} {oc6 kV6 dc6 pm6 cd6 ct6 : Value}
    {f7 : Addr} {od7 an7 : Option Addr} {sl7 : Array (Option Value)} {oc7 kV7 dc7 pm7 cd7 ct7 : Value}
    {f8 : Addr} {od8 an8 : Option Addr} {sl8 : Array (Option Value)} {oc8 kV8 dc8 pm8 cd8 ct8 : Value}
    {f9 : Addr} {od9 an9 : Option Addr} {sl9 : Array (Option Value)} {oc9 kV9 dc9 pm9 cd9 ct9 : Value}
    {f10 : Addr} {od10 an10 : Option Addr} {sl10 : Array (Option Value)} {oc10 kV10 dc10 pm10 cd10 ct10 : Value}
    {f11 : Addr} {od11 an11 : Option Addr} {sl11 : Array (Option Value)} {oc11 kV11 dc11 pm11 cd11 ct11 : Value}
    {f12 : Addr} {od12 an12 : Option Addr} {sl12 : Array (Option Value)} {oc12 kV12 dc12 pm12 cd12 ct12 : Value}
    {f13 cL PT : Addr} {od13 an13 dd : Option Addr} {sl13 slc : Array (Option Value)} {vs : Array Value} {oc13 kV13 dc13 pm13 ct13 : Value} {file : Str} {tf tg tt : Tok} {flags text : Int} {inF : Bool}
    {C_InvalidPlan : Addr}
    {t_MOST_PERIOD : Tok}
    {t_MOST_READS : Tok}
    (a0 : PySem.W.nsIn K mainGlobals "_law_refused" = some (some (.ref f0))) (l0 : K.lookup f0 = some ⟨oc0, od0, .func (PySem.W.fnOf "_law_refused" "_law_refused" (defArgs s__law_refused) (defBody s__law_refused) (defScope s__law_refused) .none kV0 dc0 pm0 an0 cd0 ct0), sl0⟩) (c0 : PySem.W.codeIn K cd0 "_law_refused" = true) (k0 : PySem.W.keepIn K (.ref f0) = true)
    (a1 : PySem.W.nsIn K mainGlobals "_law_next" = some (some (.ref f1))) (l1 : K.lookup f1 = some ⟨oc1, od1, .func (PySem.W.fnOf "_law_next" "_law_next" (defArgs s__law_next) (defBody s__law_next) (defScope s__law_next) .none kV1 dc1 pm1 an1 cd1 ct1), sl1⟩) (c1 : PySem.W.codeIn K cd1 "_law_next" = true) (k1 : PySem.W.keepIn K (.ref f1) = true)
    (a2 : PySem.W.nsIn K mainGlobals "_law_longest" = some (some (.ref f2))) (l2 : K.lookup f2 = some ⟨oc2, od2, .func (PySem.W.fnOf "_law_longest" "_law_longest" (defArgs s__law_longest) (defBody s__law_longest) (defScope s__law_longest) .none kV2 dc2 pm2 an2 cd2 ct2), sl2⟩) (c2 : PySem.W.codeIn K cd2 "_law_longest" = true) (k2 : PySem.W.keepIn K (.ref f2) = true)
    (a3 : PySem.W.nsIn K mainGlobals "_law_subsets" = some (some (.ref f3))) (l3 : K.lookup f3 = some ⟨oc3, od3, .func (PySem.W.fnOf "_law_subsets" "_law_subsets" (defArgs s__law_subsets) (defBody s__law_subsets) (defScope s__law_subsets) .none kV3 dc3 pm3 an3 cd3 ct3), sl3⟩) (c3 : PySem.W.codeIn K cd3 "_law_subsets" = true) (k3 : PySem.W.keepIn K (.ref f3) = true)
    (a4 : PySem.W.nsIn K mainGlobals "_law_take" = some (some (.ref f4))) (l4 : K.lookup f4 = some ⟨oc4, od4, .func (PySem.W.fnOf "_law_take" "_law_take" (defArgs s__law_take) (defBody s__law_take) (defScope s__law_take) .none kV4 dc4 pm4 an4 cd4 ct4), sl4⟩) (c4 : PySem.W.codeIn K cd4 "_law_take" = true) (k4 : PySem.W.keepIn K (.ref f4) = true)
    (a5 : PySem.W.nsIn K mainGlobals "_law_tape" = some (some (.ref f5))) (l5 : K.lookup f5 = some ⟨oc5, od5, .func (PySem.W.fnOf "_law_tape" "_law_tape" (defArgs s__law_tape) (defBody s__law_tape) (defScope s__law_tape) .none kV5 dc5 pm5 an5 cd5 ct5), sl5⟩) (c5 : PySem.W.codeIn K cd5 "_law_tape" = true) (k5 : PySem.W.keepIn K (.ref f5) = true)
    (a6 : PySem.W.nsIn K mainGlobals "check_reads" = some (some (.ref f6))) (l6 : K.lookup f6 = some ⟨oc6, od6, .func (PySem.W.fnOf "check_reads" "check_reads" (defArgs s_check_reads) (defBody s_check_reads) (defScope s_check_reads) .none kV6 dc6 pm6 an6 cd6 ct6), sl6⟩) (c6 : PySem.W.codeIn K cd6 "check_reads" = true) (k6 : PySem.W.keepIn K (.ref f6) = true)
    (a7 : PySem.W.nsIn K mainGlobals "next_read" = some (some (.ref f7))) (l7 : K.lookup f7 = some ⟨oc7, od7, .func (PySem.W.fnOf "next_read" "next_read" (defArgs s_next_read) (defBody s_next_read) (defScope s_next_read) .none kV7 dc7 pm7 an7 cd7 ct7), sl7⟩) (c7 : PySem.W.codeIn K cd7 "next_read" = true) (k7 : PySem.W.keepIn K (.ref f7) = true)
    (a8 : PySem.W.nsIn K mainGlobals "both_spoilt" = some (some (.ref f8))) (l8 : K.lookup f8 = some ⟨oc8, od8, .func (PySem.W.fnOf "both_spoilt" "both_spoilt" (defArgs s_both_spoilt) (defBody s_both_spoilt) (defScope s_both_spoilt) .none kV8 dc8 pm8 an8 cd8 ct8), sl8⟩) (c8 : PySem.W.codeIn K cd8 "both_spoilt" = true) (k8 : PySem.W.keepIn K (.ref f8) = true)
    (a9 : PySem.W.nsIn K mainGlobals "least_reads" = some (some (.ref f9))) (l9 : K.lookup f9 = some ⟨oc9, od9, .func (PySem.W.fnOf "least_reads" "least_reads" (defArgs s_least_reads) (defBody s_least_reads) (defScope s_least_reads) .none kV9 dc9 pm9 an9 cd9 ct9), sl9⟩) (c9 : PySem.W.codeIn K cd9 "least_reads" = true) (k9 : PySem.W.keepIn K (.ref f9) = true)
    (a10 : PySem.W.nsIn K mainGlobals "longest_unseen" = some (some (.ref f10))) (l10 : K.lookup f10 = some ⟨oc10, od10, .func (PySem.W.fnOf "longest_unseen" "longest_unseen" (defArgs s_longest_unseen) (defBody s_longest_unseen) (defScope s_longest_unseen) .none kV10 dc10 pm10 an10 cd10 ct10), sl10⟩) (c10 : PySem.W.codeIn K cd10 "longest_unseen" = true) (k10 : PySem.W.keepIn K (.ref f10) = true)
    (a11 : PySem.W.nsIn K mainGlobals "staggered" = some (some (.ref f11))) (l11 : K.lookup f11 = some ⟨oc11, od11, .func (PySem.W.fnOf "staggered" "staggered" (defArgs s_staggered) (defBody s_staggered) (defScope s_staggered) .none kV11 dc11 pm11 an11 cd11 ct11), sl11⟩) (c11 : PySem.W.codeIn K cd11 "staggered" = true) (k11 : PySem.W.keepIn K (.ref f11) = true)
    (a12 : PySem.W.nsIn K mainGlobals "takes_reads" = some (some (.ref f12))) (l12 : K.lookup f12 = some ⟨oc12, od12, .func (PySem.W.fnOf "takes_reads" "takes_reads" (defArgs s_takes_reads) (defBody s_takes_reads) (defScope s_takes_reads) .none kV12 dc12 pm12 an12 cd12 ct12), sl12⟩) (c12 : PySem.W.codeIn K cd12 "takes_reads" = true) (k12 : PySem.W.keepIn K (.ref f12) = true)
    (a13 : PySem.W.nsIn K mainGlobals "law" = some (some (.ref f13))) (l13 : K.lookup f13 = some ⟨oc13, od13, .func (PySem.W.fnOf "law" "law" (defArgs s_law) (defBody s_law) (defScope s_law) .none kV13 dc13 pm13 an13 (.ref cL) ct13), sl13⟩) (c13 : PySem.W.codeIn K (.ref cL) "law" = true) (k13 : PySem.W.keepIn K (.ref f13) = true)
    (lc : K.lookup cL = some ⟨.type "code", dd, .fields vs, slc⟩)
    (h1 : vs[11]? = some (.ref PT))
    (h2 : vs.getD 11 .none = .ref PT)
    (h3 : vs.getD 18 .none = .str file tf)
    (h4 : vs.getD 7 .none = .int flags tg)
    (h5 : vs.getD 9 .none = .bool inF)
    (h6 : vs.getD 10 .none = .int text tt)
    (h7 : cL ≠ PT)
    (nT : (K.lookup PT).isNone = true)
    (gP_InvalidPlan : PySem.W.nsIn K mainGlobals "InvalidPlan" = some (some (.ref C_InvalidPlan)))
    (xP_InvalidPlan : PySem.W.excIn K C_InvalidPlan [.type "ValueError", .type "Exception", .type "BaseException", .type "object"] "ValueError.__new__" = true)
    (kP_InvalidPlan : PySem.W.keepIn K (.ref C_InvalidPlan) = true)
    (bP_InvalidPlan : PySem.W.subIn K (.ref C_InvalidPlan) (.type "BaseException") = some true)
    (tP_InvalidPlan : PySem.W.typeIn K (.ref C_InvalidPlan) = some (.type "type"))
    (iP_InvalidPlan : PySem.W.isClsIn K C_InvalidPlan = true)
    (sP_InvalidPlan : PySem.W.subIn K (.ref C_InvalidPlan) (.ref C_InvalidPlan) = some true)
    (z_abs : PySem.W.nsIn K mainGlobals "abs" = some none)
    (z_all : PySem.W.nsIn K mainGlobals "all" = some none)
    (z_int : PySem.W.nsIn K mainGlobals "int" = some none)
    (z_len : PySem.W.nsIn K mainGlobals "len" = some none)
    (z_list : PySem.W.nsIn K mainGlobals "list" = some none)
    (z_max : PySem.W.nsIn K mainGlobals "max" = some none)
    (z_min : PySem.W.nsIn K mainGlobals "min" = some none)
    (z_range : PySem.W.nsIn K mainGlobals "range" = some none)
    (z_sorted : PySem.W.nsIn K mainGlobals "sorted" = some none)
    (z_tuple : PySem.W.nsIn K mainGlobals "tuple" = some none)
    (z_zip : PySem.W.nsIn K mainGlobals "zip" = some none)
    (v_MOST_PERIOD : PySem.W.nsIn K mainGlobals "MOST_PERIOD" = some (some (.int 60 t_MOST_PERIOD)))
    (v_MOST_READS : PySem.W.nsIn K mainGlobals "MOST_READS" = some (some (.int 8 t_MOST_READS)))
    : LamX.LawAtS l w K (L2.CX l.prog w) 6 63 "script" mg fa h := by
  have T : Txt K mg C_InvalidPlan := ⟨⟨PySem.W.mg_of X G gP_InvalidPlan, xP_InvalidPlan, kP_InvalidPlan, bP_InvalidPlan, tP_InvalidPlan, exm_of bP_InvalidPlan iP_InvalidPlan tP_InvalidPlan sP_InvalidPlan⟩, PySem.W.mg_none_of X G z_abs, PySem.W.mg_none_of X G z_all, PySem.W.mg_none_of X G z_int, PySem.W.mg_none_of X G z_len, PySem.W.mg_none_of X G z_list, PySem.W.mg_none_of X G z_max, PySem.W.mg_none_of X G z_min, PySem.W.mg_none_of X G z_range, PySem.W.mg_none_of X G z_sorted, PySem.W.mg_none_of X G z_tuple, PySem.W.mg_none_of X G z_zip, ⟨_, PySem.W.mg_of X G v_MOST_PERIOD⟩, ⟨_, PySem.W.mg_of X G v_MOST_READS⟩⟩
  have F__law_refused : TopFn K mg "_law_refused" s__law_refused ["call"] := topFn_mk X G a0 l0 c0 k0 fun _ _ _ _ _ _ us hl => match us, hl with | [_], _ => rfl
  have F__law_next : TopFn K mg "_law_next" s__law_next ["period", "reads", "moment"] := topFn_mk X G a1 l1 c1 k1 fun _ _ _ _ _ _ us hl => match us, hl with | [_, _, _], _ => rfl
  have F__law_longest : TopFn K mg "_law_longest" s__law_longest ["period", "reads"] := topFn_mk X G a2 l2 c2 k2 fun _ _ _ _ _ _ us hl => match us, hl with | [_, _], _ => rfl
  have F__law_subsets : TopFn K mg "_law_subsets" s__law_subsets ["things"] := topFn_mk X G a3 l3 c3 k3 fun _ _ _ _ _ _ us hl => match us, hl with | [_], _ => rfl
  have F__law_take : TopFn K mg "_law_take" s__law_take ["tape", "many"] := topFn_mk X G a4 l4 c4 k4 fun _ _ _ _ _ _ us hl => match us, hl with | [_, _], _ => rfl
  have F__law_tape : TopFn K mg "_law_tape" s__law_tape ["script"] := topFn_mk X G a5 l5 c5 k5 fun _ _ _ _ _ _ us hl => match us, hl with | [_], _ => rfl
  have F_check_reads : TopFn K mg "check_reads" s_check_reads ["period", "reads"] := topFn_mk X G a6 l6 c6 k6 fun _ _ _ _ _ _ us hl => match us, hl with | [_, _], _ => rfl
  have F_next_read : TopFn K mg "next_read" s_next_read ["period", "reads", "moment"] := topFn_mk X G a7 l7 c7 k7 fun _ _ _ _ _ _ us hl => match us, hl with | [_, _, _], _ => rfl
  have F_both_spoilt : TopFn K mg "both_spoilt" s_both_spoilt ["period", "first", "second"] := topFn_mk X G a8 l8 c8 k8 fun _ _ _ _ _ _ us hl => match us, hl with | [_, _, _], _ => rfl
  have F_least_reads : TopFn K mg "least_reads" s_least_reads ["period", "most"] := topFn_mk X G a9 l9 c9 k9 fun _ _ _ _ _ _ us hl => match us, hl with | [_, _], _ => rfl
  have F_longest_unseen : TopFn K mg "longest_unseen" s_longest_unseen ["period", "reads"] := topFn_mk X G a10 l10 c10 k10 fun _ _ _ _ _ _ us hl => match us, hl with | [_, _], _ => rfl
  have F_staggered : TopFn K mg "staggered" s_staggered ["period", "disks"] := topFn_mk X G a11 l11 c11 k11 fun _ _ _ _ _ _ us hl => match us, hl with | [_, _], _ => rfl
  have F_takes_reads : TopFn K mg "takes_reads" s_takes_reads ["period", "reads", "most"] := topFn_mk X G a12 l12 c12 k12 fun _ _ _ _ _ _ us hl => match us, hl with | [_, _, _], _ => rfl
  have F_law : TopFnC K mg "law" s_law ["script"] cL := topFnC_mk X G a13 l13 c13 k13 fun _ _ _ _ _ _ us hl => match us, hl with | [_], _ => rfl
  have ef : f13 = fa := by
    have e := (PySem.W.mg_of X G a13).symm.trans hfa
    cases e
    rfl
  refine law_at (c := c_law) (q := (PyProof.Rows.envOfC "law" (defScope s_law) 0 0 .none).qual ++ "<lambda>") F_law hfa (O cL PT _ _ _ _ _ _ (ef ▸ l13) rfl rfl lc h1) (Option.isNone_iff_eq_none.mp nT) (codeHd_mk X lc h1 h2 h3 h4 h5 h6 h7) (fun ns R X hl h => by first | exact h | exact ⟨hl, h⟩) fun base _ _ TBc => ?_
  have G__law_next := ok__law_next (P := l.prog) (w := w) (base := base) (TB := [(PT, (PyProof.Rows.envOfC "law" (defScope s_law) 0 0 .none).qual ++ "<lambda>")]) T F__law_next
  have G__law_longest := ok__law_longest (P := l.prog) (w := w) (base := base) (TB := [(PT, (PyProof.Rows.envOfC "law" (defScope s_law) 0 0 .none).qual ++ "<lambda>")]) T G__law_next F__law_longest
  have G__law_subsets := ok__law_subsets (P := l.prog) (w := w) (base := base) (TB := [(PT, (PyProof.Rows.envOfC "law" (defScope s_law) 0 0 .none).qual ++ "<lambda>")]) T F__law_subsets
  have G__law_take := ok__law_take (P := l.prog) (w := w) (base := base) (TB := [(PT, (PyProof.Rows.envOfC "law" (defScope s_law) 0 0 .none).qual ++ "<lambda>")]) T F__law_take
  have G__law_tape := ok__law_tape (P := l.prog) (w := w) (base := base) (TB := [(PT, (PyProof.Rows.envOfC "law" (defScope s_law) 0 0 .none).qual ++ "<lambda>")]) T F__law_tape
  have G_check_reads := ok_check_reads (P := l.prog) (w := w) (base := base) (TB := [(PT, (PyProof.Rows.envOfC "law" (defScope s_law) 0 0 .none).qual ++ "<lambda>")]) T F_check_reads
  have G_next_read := ok_next_read (P := l.prog) (w := w) (base := base) (TB := [(PT, (PyProof.Rows.envOfC "law" (defScope s_law) 0 0 .none).qual ++ "<lambda>")]) T G_check_reads F_next_read
  have G_both_spoilt := ok_both_spoilt (P := l.prog) (w := w) (base := base) (TB := [(PT, (PyProof.Rows.envOfC "law" (defScope s_law) 0 0 .none).qual ++ "<lambda>")]) T G_check_reads G_next_read F_both_spoilt
  have G_least_reads := ok_least_reads (P := l.prog) (w := w) (base := base) (TB := [(PT, (PyProof.Rows.envOfC "law" (defScope s_law) 0 0 .none).qual ++ "<lambda>")]) T F_least_reads
  have G_longest_unseen := ok_longest_unseen (P := l.prog) (w := w) (base := base) (TB := [(PT, (PyProof.Rows.envOfC "law" (defScope s_law) 0 0 .none).qual ++ "<lambda>")]) T G_check_reads G_next_read F_longest_unseen
  have G_staggered := ok_staggered (P := l.prog) (w := w) (base := base) (TB := [(PT, (PyProof.Rows.envOfC "law" (defScope s_law) 0 0 .none).qual ++ "<lambda>")]) T F_staggered
  have G_takes_reads := ok_takes_reads (P := l.prog) (w := w) (base := base) (TB := [(PT, (PyProof.Rows.envOfC "law" (defScope s_law) 0 0 .none).qual ++ "<lambda>")]) T G_longest_unseen F_takes_reads
  have G_law := ok_law (P := l.prog) (w := w) (base := base) (TB := [(PT, (PyProof.Rows.envOfC "law" (defScope s_law) 0 0 .none).qual ++ "<lambda>")]) T G__law_longest G__law_next G__law_subsets G__law_take G__law_tape G_both_spoilt G_least_reads G_longest_unseen G_next_read G_staggered G_takes_reads F__law_refused TBc (List.mem_singleton.mpr rfl) (fun q hq _ => by obtain rfl := List.mem_singleton.mp hq; rfl) F_law
  exact G_law
end K73
open PySem PySem.W PyProof.Rows in
set_option maxRecDepth 100000 in
set_option maxHeartbeats 0 in
theorem PySem.Challenge.cw_wreckhouse_k73_whole_reads_through_holds : PySem.Challenge.rw_wreckhouse_k73_whole_reads_through.Holds := by
  w_on; o_law; k_head; (case hw => w_witness2)
  k_fill
  refine DL.law_walkT (l := PySem.Challenge.rw_wreckhouse_k73_whole_reads_through) (x := "script") (k := 6) rfl rfl ⟨rfl, by decide, by decide⟩ (by decide +kernel) (fun w h Y => PySem.W.km_in_of Y) ?F
  case F =>
    intro w mg fa h KX G hmg O
    refine' K73.all_mk KX G hmg O ?a0 ?l0 ?c0 ?k0 ?a1 ?l1 ?c1 ?k1 ?a2 ?l2 ?c2 ?k2 ?a3 ?l3 ?c3 ?k3 ?a4 ?l4 ?c4 ?k4 ?a5 ?l5 ?c5 ?k5 ?a6 ?l6 ?c6 ?k6 ?a7 ?l7 ?c7 ?k7 ?a8 ?l8 ?c8 ?k8 ?a9 ?l9 ?c9 ?k9 ?a10 ?l10 ?c10 ?k10 ?a11 ?l11 ?c11 ?k11 ?a12 ?l12 ?c12 ?k12 ?a13 ?l13 ?c13 ?k13 ?lc ?h1 ?h2 ?h3 ?h4 ?h5 ?h6 ?h7 ?nT ?gP_InvalidPlan ?xP_InvalidPlan ?kP_InvalidPlan ?bP_InvalidPlan ?tP_InvalidPlan ?iP_InvalidPlan ?sP_InvalidPlan ?z_abs ?z_all ?z_int ?z_len ?z_list ?z_max ?z_min ?z_range ?z_sorted ?z_tuple ?z_zip ?v_MOST_PERIOD ?v_MOST_READS
    (case a0 => k_is)
    (case l0 => k_is)
    (case c0 => k_is)
    (case k0 => k_is)
    (case a1 => k_is)
    (case l1 => k_is)
    (case c1 => k_is)
    (case k1 => k_is)
    (case a2 => k_is)
    (case l2 => k_is)
    (case c2 => k_is)
    (case k2 => k_is)
    (case a3 => k_is)
    (case l3 => k_is)
    (case c3 => k_is)
    (case k3 => k_is)
    (case a4 => k_is)
    (case l4 => k_is)
    (case c4 => k_is)
    (case k4 => k_is)
    (case a5 => k_is)
    (case l5 => k_is)
    (case c5 => k_is)
    (case k5 => k_is)
    (case a6 => k_is)
    (case l6 => k_is)
    (case c6 => k_is)
    (case k6 => k_is)
    (case a7 => k_is)
    (case l7 => k_is)
    (case c7 => k_is)
    (case k7 => k_is)
    (case a8 => k_is)
    (case l8 => k_is)
    (case c8 => k_is)
    (case k8 => k_is)
    (case a9 => k_is)
    (case l9 => k_is)
    (case c9 => k_is)
    (case k9 => k_is)
    (case a10 => k_is)
    (case l10 => k_is)
    (case c10 => k_is)
    (case k10 => k_is)
    (case a11 => k_is)
    (case l11 => k_is)
    (case c11 => k_is)
    (case k11 => k_is)
    (case a12 => k_is)
    (case l12 => k_is)
    (case c12 => k_is)
    (case k12 => k_is)
    (case a13 => k_is)
    (case l13 => k_is)
    (case c13 => k_is)
    (case k13 => k_is)
    (case lc => k_is)
    (case h1 => rfl)
    (case h2 => rfl)
    (case h3 => rfl)
    (case h4 => rfl)
    (case h5 => rfl)
    (case h6 => rfl)
    (case h7 => decide)
    (case nT => rfl)
    (case gP_InvalidPlan => k_is)
    (case xP_InvalidPlan => k_exc)
    (case kP_InvalidPlan => k_is)
    (case bP_InvalidPlan => k_is)
    (case tP_InvalidPlan => k_is)
    (case iP_InvalidPlan => k_is)
    (case sP_InvalidPlan => k_is)
    (case z_abs => k_is)
    (case z_all => k_is)
    (case z_int => k_is)
    (case z_len => k_is)
    (case z_list => k_is)
    (case z_max => k_is)
    (case z_min => k_is)
    (case z_range => k_is)
    (case z_sorted => k_is)
    (case z_tuple => k_is)
    (case z_zip => k_is)
    (case v_MOST_PERIOD => k_is)
    (case v_MOST_READS => k_is)
#print axioms PySem.Challenge.cw_wreckhouse_k73_whole_reads_through_holds
