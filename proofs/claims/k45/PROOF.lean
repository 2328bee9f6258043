import PyProof.Rows.All
import Wide.All
import OpenK.AllK
import Wide.FinOn
import HandS.ForMost
import HandS.ForExc
import HandS.TupAny
import HandS.Conv
import HandS.Deep
import HandS.CallSlots
import HandS.Zip
import HandS.Lambda
import HandS.TupMul
import HandS.Wide
import HandS.SortInts
import KE.SortData
import KE.GoesEnum
import KE.GoesMore
import HandS.ExcOwn
import HandS.EndOwn
import HandS.WordsExc
import KE.SortKeyHeap
import HandS.SortKw
import HandS.DictComp
import HandS.RepeatKit
import HandS.WideBits
import HandS.Property
import HandS.SetKeys
import KE.GoesZip
import HandS.IsInst
import HandS.Style
import HandS.TryMany
import HandS.ExcIs
import HandS.ExcField
import KE.KExcIs
import HandS.Defaults
import HandS.DictTup
import HandS.DictSubView
import KE.KDictDisplayH
import HandS.Text
import HandS.FStr
import HandS.ExcInit
import KE.KExcSuper
import KE.RegKSuper
import KE.KExcLine
import Wide.Txt
import HandS.Replace
import PySem.Challenge.RW_wreckhouse_k45_stripes
set_option Elab.async false
set_option linter.all false
set_option maxRecDepth 100000
set_option maxHeartbeats 4000000
namespace DL
open PySem PySem.Spec L2
inductive D where
  | non | bl (b : Bool) | int (i : Int) | str (x : Str)
  | tup (ds : List D) | lst (ds : List D)
  | scr (ns : List Int)
  | wtu (ds : List D)
  | dic (kvs : List (Key × D))
  | dit (kvs : List (List Key × D))
  | dil (kvs : List (List Key × D))
  | obj (C : Addr) (fs : List (Str × D))
  | ref (a : Addr) | ty (n : String)
  /-- the exception at a, its dict at d -/
  | exc (a d : Addr) (fs : List (Str × D))
def WrT (K : PySem.W.Frag) (a : Addr) (xs : List V) : Prop := ∃ (o : Obj) (its : Array Value) (n : Nat), K.lookup a = some o ∧ o.cls = .type "tuple" ∧ o.data = .seq its n ∧ its.size ≤ sizeLine ∧ Vals xs its.toList
mutual
inductive Fz (K : PySem.W.Frag) (H : Hp) : V → D → Prop
  | non : Fz K H .non .non
  | bl (b : Bool) : Fz K H (.bl b) (.bl b)
  | int (i : Int) : Fz K H (.int i) (.int i)
  | str (x : Str) : Fz K H (.str x) (.str x)
  | tup {a : Addr} {xs : List V} {ds : List D} : H a = some (.tup xs) → Fzs K H xs ds → Fz K H (.ref a) (.tup ds)
  | wtu {a : Addr} {xs : List V} {ds : List D} : WrT K a xs → Fzs K H xs ds → Fz K H (.ref a) (.wtu ds)
  | lst {a : Addr} {xs : List V} {ds : List D} : H a = some (.lst xs) → Fzs K H xs ds → Fz K H (.ref a) (.lst ds)
  | scr {a : Addr} {ns : List Int} : SqL K H a (ns.map V.int) → Fz K H (.ref a) (.scr ns)
  | dic {a : Addr} {kvs : List (Key × V)} {ds : List (Key × D)} : Rd H a (.dK kvs) → Fzk K H kvs ds → Fz K H (.ref a) (.dic ds)
  | dit {a : Addr} {kvs : List (List Key × V)} {ds : List (List Key × D)} : Rd H a (.dT kvs) → Fzt K H kvs ds → Fz K H (.ref a) (.dit ds)
  | dil {a : Addr} {o : Obj} {kvs : List (List Key × V)} {ds : List (List Key × D)} : H a = some (.frz o (.dT kvs)) → Fzt K H kvs ds → Fz K H (.ref a) (.dil ds)
  | obj {a C dx : Addr} {fs : List (Str × V)} {ds : List (Str × D)} : H a = some (.ins C dx fs) → Fzf K H fs ds → Fz K H (.ref a) (.obj C ds)
  | ref (a : Addr) : Fz K H (.ref a) (.ref a)
  | ty (n : String) : Fz K H (.ty n) (.ty n)
  | exc {a d : Addr} {fs : List (Str × V)} {ds : List (Str × D)} : H d = some (.xd fs) → Fzf K H fs ds → Fz K H (.ref a) (.exc a d ds)
inductive Fzs (K : PySem.W.Frag) (H : Hp) : List V → List D → Prop
  | nil : Fzs K H [] []
  | cons {v : V} {vs : List V} {d : D} {ds : List D} : Fz K H v d → Fzs K H vs ds → Fzs K H (v :: vs) (d :: ds)
inductive Fzk (K : PySem.W.Frag) (H : Hp) : List (Key × V) → List (Key × D) → Prop
  | nil : Fzk K H [] []
  | cons {k : Key} {v : V} {vs : List (Key × V)} {d : D} {ds : List (Key × D)} : Fz K H v d → Fzk K H vs ds → Fzk K H ((k, v) :: vs) ((k, d) :: ds)
inductive Fzt (K : PySem.W.Frag) (H : Hp) : List (List Key × V) → List (List Key × D) → Prop
  | nil : Fzt K H [] []
  | cons {k : List Key} {v : V} {vs : List (List Key × V)} {d : D} {ds : List (List Key × D)} : Fz K H v d → Fzt K H vs ds → Fzt K H ((k, v) :: vs) ((k, d) :: ds)
inductive Fzf (K : PySem.W.Frag) (H : Hp) : List (Str × V) → List (Str × D) → Prop
  | nil : Fzf K H [] []
  | cons {k : Str} {v : V} {vs : List (Str × V)} {d : D} {ds : List (Str × D)} : Fz K H v d → Fzf K H vs ds → Fzf K H ((k, v) :: vs) ((k, d) :: ds)
end
def Lk : HO → Prop
  | .dK _ => True
  | .dT _ => True
  | _ => False
def tmark (q : Str) : HO := .tbl #[.int (-1) 0, .int 0 0, .str q 0]
def Sub (F H : Hp) : Prop := ∀ a o, F a = some o → H a = some o ∨ (Lk o ∧ ∃ ob, H a = some (.frz ob o)) ∨ ∃ q, o = tmark q ∧ LamX.TabS H a q
theorem Sub.refl (H : Hp) : Sub H H := fun _ _ h => .inl h
theorem Sub.of {F H : Hp} (h : ∀ a o, F a = some o → H a = some o) : Sub F H := fun a o e => .inl (h a o e)
theorem Sub.rd {F H : Hp} (s : Sub F H) {a : Addr} {u : HO} (r : Rd F a u) (hn : ∀ ps, u ≠ .tbl ps := by intro _ h; cases h) : Rd H a u := by
  rcases r with h | ⟨o, h⟩
  · rcases s a u h with h | ⟨_, ob, h⟩ | ⟨q, e, _⟩
    · exact .inl h
    · exact .inr ⟨ob, h⟩
    · exact absurd e (hn _)
  · rcases s a _ h with h | ⟨l, _⟩ | ⟨q, e, _⟩
    · exact .inr ⟨o, h⟩
    · exact l.elim
    · cases e
theorem Sub.frz {F H : Hp} (s : Sub F H) {a : Addr} {o : Obj} {u : HO} (h : F a = some (.frz o u)) : H a = some (.frz o u) := by
  rcases s a _ h with h | ⟨l, _⟩ | ⟨q, e, _⟩
  · exact h
  · exact l.elim
  · cases e
theorem Sub.sqL {K : PySem.W.Frag} {F H : Hp} (s : Sub F H) {a : Addr} {xs : List V} (r : SqL K F a xs) : SqL K H a xs := by
  rcases r with h | h
  · exact .inl (s.rd h)
  · exact .inr h
theorem Sub.sqT {K : PySem.W.Frag} {F H : Hp} (s : Sub F H) {a : Addr} {xs : List V} (r : SqT K F a xs) : SqT K H a xs := by
  rcases r with h | h
  · exact .inl (s.rd h)
  · exact .inr h
theorem Sub.tup {F H : Hp} (s : Sub F H) {a : Addr} {xs : List V} (h : F a = some (.tup xs)) : H a = some (.tup xs) := by
  rcases s a _ h with h | ⟨l, _⟩ | ⟨q, e, _⟩
  · exact h
  · exact l.elim
  · cases e
theorem Sub.lst {F H : Hp} (s : Sub F H) {a : Addr} {xs : List V} (h : F a = some (.lst xs)) : H a = some (.lst xs) := by
  rcases s a _ h with h | ⟨l, _⟩ | ⟨q, e, _⟩
  · exact h
  · exact l.elim
  · cases e
theorem Sub.ins {F H : Hp} (s : Sub F H) {a C dx : Addr} {fs : List (Str × V)} (h : F a = some (.ins C dx fs)) : H a = some (.ins C dx fs) := by
  rcases s a _ h with h | ⟨l, _⟩ | ⟨q, e, _⟩
  · exact h
  · exact l.elim
  · cases e
theorem Sub.xd {F H : Hp} (s : Sub F H) {a : Addr} {fs : List (Str × V)} (h : F a = some (.xd fs)) : H a = some (.xd fs) := by
  rcases s a _ h with h | ⟨l, _⟩ | ⟨q, e, _⟩
  · exact h
  · exact l.elim
  · cases e
theorem Sub.trans {F G H : Hp} (s : ∀ a o, F a = some o → G a = some o) (t : Sub G H) : Sub F H := fun a o h => t a o (s a o h)
mutual
theorem Fz.mono {K : PySem.W.Frag} {F H : Hp} (s : Sub F H) : ∀ {v : V} {d : D}, Fz K F v d → Fz K H v d
  | _, _, .non => .non
  | _, _, .bl b => .bl b
  | _, _, .int i => .int i
  | _, _, .str x => .str x
  | _, _, .tup h r => .tup (s.tup h) (Fzs.mono s r)
  | _, _, .wtu h r => .wtu h (Fzs.mono s r)
  | _, _, .lst h r => .lst (s.lst h) (Fzs.mono s r)
  | _, _, .scr h => .scr (s.sqL h)
  | _, _, .dic h r => .dic (s.rd h) (Fzk.mono s r)
  | _, _, .dit h r => .dit (s.rd h) (Fzt.mono s r)
  | _, _, .dil h r => .dil (s.frz h) (Fzt.mono s r)
  | _, _, .obj h r => .obj (s.ins h) (Fzf.mono s r)
  | _, _, .ref a => .ref a
  | _, _, .ty n => .ty n
  | _, _, .exc h r => .exc (s.xd h) (Fzf.mono s r)
theorem Fzs.mono {K : PySem.W.Frag} {F H : Hp} (s : Sub F H) : ∀ {v : List V} {d : List D}, Fzs K F v d → Fzs K H v d
  | _, _, .nil => .nil
  | _, _, .cons h r => .cons (Fz.mono s h) (Fzs.mono s r)
theorem Fzk.mono {K : PySem.W.Frag} {F H : Hp} (s : Sub F H) : ∀ {v : List (Key × V)} {d : List (Key × D)}, Fzk K F v d → Fzk K H v d
  | _, _, .nil => .nil
  | _, _, .cons h r => .cons (Fz.mono s h) (Fzk.mono s r)
theorem Fzt.mono {K : PySem.W.Frag} {F H : Hp} (s : Sub F H) : ∀ {v : List (List Key × V)} {d : List (List Key × D)}, Fzt K F v d → Fzt K H v d
  | _, _, .nil => .nil
  | _, _, .cons h r => .cons (Fz.mono s h) (Fzt.mono s r)
theorem Fzf.mono {K : PySem.W.Frag} {F H : Hp} (s : Sub F H) : ∀ {v : List (Str × V)} {d : List (Str × D)}, Fzf K F v d → Fzf K H v d
  | _, _, .nil => .nil
  | _, _, .cons h r => .cons (Fz.mono s h) (Fzf.mono s r)
end
theorem Fzs.length {K : PySem.W.Frag} {H : Hp} : ∀ {v : List V} {d : List D}, Fzs K H v d → v.length = d.length
  | _, _, .nil => rfl
  | _, _, .cons _ r => congrArg (· + 1) r.length
theorem Fzk.length {K : PySem.W.Frag} {H : Hp} : ∀ {v : List (Key × V)} {d : List (Key × D)}, Fzk K H v d → v.length = d.length
  | _, _, .nil => rfl
  | _, _, .cons _ r => congrArg (· + 1) r.length
theorem Fzs.get {K : PySem.W.Frag} {H : Hp} : ∀ {v : List V} {d : List D} {i : Nat} {x : D}, Fzs K H v d → d[i]? = some x → ∃ u, v[i]? = some u ∧ Fz K H u x
  | _, _, i, _, .nil, h => by simp at h
  | _, _, 0, _, .cons a _, h => by cases h; exact ⟨_, rfl, a⟩
  | _, _, i + 1, _, .cons _ r, h => r.get (i := i) (by simpa using h)
theorem Fzs.append {K : PySem.W.Frag} {H : Hp} : ∀ {v v' : List V} {d d' : List D}, Fzs K H v d → Fzs K H v' d' → Fzs K H (v ++ v') (d ++ d')
  | _, _, _, _, .nil, h => h
  | _, _, _, _, .cons a r, h => .cons a (r.append h)
theorem Fzs.set {K : PySem.W.Frag} {H : Hp} {x : V} {y : D} (h : Fz K H x y) : ∀ {v : List V} {d : List D} (i : Nat), Fzs K H v d → Fzs K H (v.set i x) (d.set i y)
  | _, _, i, .nil => by cases i <;> exact .nil
  | _, _, 0, .cons _ r => .cons h r
  | _, _, i + 1, .cons a r => .cons a (Fzs.set h i r)
theorem Fzs.take {K : PySem.W.Frag} {H : Hp} : ∀ {v : List V} {d : List D} (n : Nat), Fzs K H v d → Fzs K H (v.take n) (d.take n)
  | _, _, n, .nil => by simpa using .nil
  | _, _, 0, .cons _ _ => .nil
  | _, _, n + 1, .cons a r => .cons a (r.take n)
theorem Fzs.drop {K : PySem.W.Frag} {H : Hp} : ∀ {v : List V} {d : List D} (n : Nat), Fzs K H v d → Fzs K H (v.drop n) (d.drop n)
  | _, _, n, .nil => by simpa using .nil
  | _, _, 0, .cons a r => .cons a r
  | _, _, n + 1, .cons _ r => by simpa using r.drop n
theorem Fzs.reverse {K : PySem.W.Frag} {H : Hp} : ∀ {v : List V} {d : List D}, Fzs K H v d → Fzs K H v.reverse d.reverse
  | _, _, .nil => .nil
  | _, _, .cons a r => by
    rw [List.reverse_cons, List.reverse_cons]
    exact r.reverse.append (.cons a .nil)
mutual
inductive M where
  | fz (d : D)
  | ml (ds : List D)
  | md (kvs : List (Key × D))
  | mt (kvs : List (List Key × D))
  | mo (C : Addr) (fs : MF)
inductive FV where
  | fz (d : D)
  | own (x : V) (m : M)
inductive MF where
  | nil
  | cons (f : Str) (y : FV) (r : MF)
end
mutual
def M.frz : M → D
  | .fz d => d
  | .ml ds => .lst ds
  | .md kvs => .dic kvs
  | .mt kvs => .dit kvs
  | .mo C fs => .obj C fs.frz
def FV.frz : FV → D
  | .fz d => d
  | .own _ m => m.frz
def MF.frz : MF → List (Str × D)
  | .nil => []
  | .cons f y r => (f, y.frz) :: r.frz
end
def MF.get : MF → Str → Option FV
  | .nil, _ => none
  | .cons f y r, g => if g = f then some y else r.get g
def MF.put : MF → Str → FV → MF
  | .nil, g, z => .cons g z .nil
  | .cons f y r, g, z => if f = g then .cons f z r else .cons f y (r.put g z)
def MF.len : MF → Nat
  | .nil => 0
  | .cons _ _ r => r.len + 1
mutual
inductive Ow (K : PySem.W.Frag) (F H : Hp) : V → M → List Addr → Prop
  | fz {v : V} {d : D} : Fz K F v d → Ow K F H v (.fz d) []
  | ml {a : Addr} {xs : List V} {ds : List D} : F a = none → H a = some (.lst xs) → Fzs K F xs ds → Ow K F H (.ref a) (.ml ds) [a]
  | md {a : Addr} {kvs : List (Key × V)} {ds : List (Key × D)} : F a = none → H a = some (.dK kvs) → Fzk K F kvs ds → Ow K F H (.ref a) (.md ds) [a]
  | mt {a : Addr} {kvs : List (List Key × V)} {ds : List (List Key × D)} : F a = none → H a = some (.dT kvs) → Fzt K F kvs ds → Ow K F H (.ref a) (.mt ds) [a]
  | mo {a C dx : Addr} {vs : List (Str × V)} {fs : MF} {B : List Addr} : F a = none → H a = some (.ins C dx vs) → OwF K F H vs fs B → Ow K F H (.ref a) (.mo C fs) (a :: B)
inductive FvO (K : PySem.W.Frag) (F H : Hp) : V → FV → List Addr → Prop
  | fz {v : V} {d : D} : Fz K F v d → FvO K F H v (.fz d) []
  | own {x : V} {m : M} {B : List Addr} : Ow K F H x m B → FvO K F H x (.own x m) B
inductive OwF (K : PySem.W.Frag) (F H : Hp) : List (Str × V) → MF → List Addr → Prop
  | nil : OwF K F H [] .nil []
  | cons {f : Str} {x : V} {y : FV} {vs : List (Str × V)} {fs : MF} {A1 A2 : List Addr} : FvO K F H x y A1 → OwF K F H vs fs A2 → OwF K F H ((f, x) :: vs) (.cons f y fs) (A1 ++ A2)
end
inductive Slot where
  | un
  | v (m : M)
  | p (x : V) (m : M)
abbrev DSt := List Slot
inductive OwS (K : PySem.W.Frag) (F H : Hp) : St → DSt → List Addr → Prop
  | nil : OwS K F H [] [] []
  | un {x : Option V} {σ : St} {s : DSt} {A : List Addr} : OwS K F H σ s A → OwS K F H (x :: σ) (.un :: s) A
  | v {x : V} {m : M} {σ : St} {s : DSt} {A1 A2 : List Addr} : Ow K F H x m A1 → OwS K F H σ s A2 → OwS K F H (some x :: σ) (.v m :: s) (A1 ++ A2)
  | p {x : V} {m : M} {σ : St} {s : DSt} {A1 A2 : List Addr} : Ow K F H x m A1 → OwS K F H σ s A2 → OwS K F H (some x :: σ) (.p x m :: s) (A1 ++ A2)
inductive OwL (K : PySem.W.Frag) (F H : Hp) : List V → List M → List Addr → Prop
  | nil : OwL K F H [] [] []
  | cons {x : V} {m : M} {xs : List V} {ms : List M} {A1 A2 : List Addr} : Ow K F H x m A1 → OwL K F H xs ms A2 → OwL K F H (x :: xs) (m :: ms) (A1 ++ A2)
def Fr (H : Hp) (a : Addr) : Prop := H a = none ∨ ∃ ps, H a = some (.tbl ps)
def FrN (H : Hp) (a : Addr) : Prop := Fr H a ∨ ∃ xs, H a = some (.tup xs)
structure Frm (F H : Hp) (A : List Addr) (F' H' : Hp) (A' : List Addr) : Prop where
  fsub : ∀ a o, F a = some o → F' a = some o
  keep : ∀ a o, H a = some o → a ∉ A → (∀ ps, o ≠ .tbl ps) → H' a = some o
  new : ∀ a ∈ A', a ∈ A ∨ Fr H a
  fnew : ∀ a o, F' a = some o → F a = some o ∨ a ∈ A ∨ FrN H a
  ft : ∀ a ps, F' a = some (.tbl ps) → F a = some (.tbl ps)
theorem Frm.ext {F H : Hp} {A : List Addr} {F' H' : Hp} {A' : List Addr} (h1 : ∀ a o, F a = some o → F' a = some o) (h2 : ∀ a o, H a = some o → H' a = some o) (h3 : ∀ a ∈ A', a ∈ A ∨ H a = none) (h4 : ∀ a o, F' a = some o → F a = some o ∨ a ∈ A ∨ H a = none) (h5 : ∀ a ps, F' a = some (.tbl ps) → F a = some (.tbl ps) := by exact fun _ _ h => h) : Frm F H A F' H' A' :=
  ⟨h1, fun a o h _ _ => h2 a o h, fun a h => (h3 a h).imp id .inl, fun a o h => (h4 a o h).imp id fun q => q.imp id fun z => .inl (.inl z), h5⟩
theorem Frm.exF {F H : Hp} {A : List Addr} {F' H' : Hp} {A' : List Addr} (h1 : ∀ a o, F a = some o → F' a = some o) (h2 : ∀ a o, H a = some o → H' a = some o) (h3 : ∀ a ∈ A', a ∈ A ∨ Fr H a) (h4 : ∀ a o, F' a = some o → F a = some o ∨ a ∈ A ∨ FrN H a) (h5 : ∀ a ps, F' a = some (.tbl ps) → F a = some (.tbl ps)) : Frm F H A F' H' A' :=
  ⟨h1, fun a o h _ _ => h2 a o h, h3, h4, h5⟩
def Dt : HO → Prop
  | .lst _ => True
  | .dK _ => True
  | .dT _ => True
  | .ins _ _ _ => True
  | _ => False
theorem Dt.nt {o : HO} (d : Dt o) : ∀ ps, o ≠ .tbl ps := fun ps e => by subst e; exact d
theorem TabS.upd {H : Hp} {P : Addr} {q : Str} {a : Addr} {o u : HO} (t : LamX.TabS H P q) (h : H a = some o) (d : Dt o) : LamX.TabS (L2.upd H a u) P q := by
  obtain ⟨ps, h1, h2, h3⟩ := t
  refine ⟨ps, ?_, h2, fun pos cv hc => ?_⟩
  · rw [upd_ne (fun e => by subst e; rw [h] at h1; cases h1; exact d)]; exact h1
  · obtain ⟨c, e1, e2⟩ := h3 pos cv hc
    refine ⟨c, e1, ?_⟩
    rw [upd_ne (fun e => by subst e; rw [h] at e2; cases e2; exact d)]; exact e2
theorem Sub.upd {F H : Hp} {a : Addr} {u : HO} (s : Sub F H) (n : F a = none) (h : H a = none ∨ ∃ o, H a = some o ∧ Dt o) : Sub F (L2.upd H a u) := fun b o e => by
  have ne : b ≠ a := fun q => by subst q; rw [n] at e; cases e
  rw [upd_ne ne]
  refine (s b o e).imp id fun q => q.imp id fun ⟨q, e1, t⟩ => ⟨q, e1, ?_⟩
  rcases h with h | ⟨o', h, d⟩
  · exact t.ext fun c oc hc => by rw [upd_ne (fun q => by subst q; rw [h] at hc; cases hc)]; exact hc
  · exact TabS.upd t h d
theorem Sub.fresh {F H : Hp} {a : Addr} (s : Sub F H) (h : H a = none) : F a = none := by
  cases e : F a with
  | none => rfl
  | some o =>
    rcases s a o e with q | ⟨_, _, q⟩ | ⟨_, _, ps, q, _⟩ <;> rw [h] at q <;> cases q
theorem Frm.upd {F H : Hp} {a : Addr} {o u : HO} (h : H a = some o) (d : Dt o) : Frm F H [a] F (L2.upd H a u) [a] :=
  ⟨fun _ _ h => h, fun b o hb hn _ => by rw [upd_ne (fun e => hn (by simp [e]))]; exact hb, fun b hb => .inl hb, fun _ _ h => .inl h, fun _ _ h => h⟩
theorem Frm.refl {F H : Hp} {A : List Addr} : Frm F H A F H A := .ext (fun _ _ h => h) (fun _ _ h => h) (fun _ h => .inl h) (fun _ _ h => .inl h)
theorem Frm.weak {F H : Hp} {A : List Addr} {F' H' : Hp} {A' A2 : List Addr} (f : Frm F H A F' H' A') (h : ∀ a ∈ A2, a ∈ A') : Frm F H A F' H' A2 :=
  ⟨f.fsub, f.keep, fun a ha => f.new a (h a ha), f.fnew, f.ft⟩
theorem Frm.more {F H : Hp} {A : List Addr} {F' H' : Hp} {A' B B' : List Addr} (f : Frm F H A F' H' A') (h : ∀ a ∈ A, a ∈ B) (h' : ∀ a ∈ B', a ∈ B ∨ Fr H a) : Frm F H B F' H' B' :=
  ⟨f.fsub, fun a o e hb => f.keep a o e fun q => hb (h a q), h', fun a o e => (f.fnew a o e).imp id fun q => q.imp (h a) id, f.ft⟩
theorem Frm.gone {F H : Hp} {A : List Addr} {F' H' : Hp} {A' : List Addr} (f : Frm F H A F' H' A') {a : Addr} (h : Fr H' a) : a ∈ A ∨ Fr H a := by
  by_cases ha : a ∈ A
  · exact .inl ha
  · cases e : H a with
    | none => exact .inr (.inl e)
    | some o =>
      by_cases ht : ∃ ps, o = .tbl ps
      · obtain ⟨ps, rfl⟩ := ht
        exact .inr (.inr ⟨ps, e⟩)
      · have k := f.keep a o e ha fun ps q => ht ⟨ps, q⟩
        rcases h with h | ⟨ps, h⟩
        · rw [h] at k; cases k
        · rw [h] at k; cases k; exact absurd ⟨ps, rfl⟩ ht
theorem fr_no {H : Hp} {a : Addr} {o : HO} (h : H a = some o) (hn : ∀ ps, o ≠ .tbl ps) : ¬ Fr H a := fun q => by
  rcases q with q | ⟨ps, q⟩
  · rw [h] at q; cases q
  · rw [h] at q; cases q; exact hn ps rfl
theorem Frm.trans {F H F1 H1 F2 H2 : Hp} {A A1 A2 B : List Addr} (f : Frm F H A F1 H1 (B ++ A1)) (g : Frm F1 H1 A1 F2 H2 A2) : Frm F H A F2 H2 (B ++ A2) := by
  have back : ∀ a, a ∈ A1 ∨ Fr H1 a → a ∈ A ∨ Fr H a := fun a h => by
    rcases h with h | h
    · exact f.new a (List.mem_append_right _ h)
    · exact f.gone h
  refine ⟨fun a o h => g.fsub a o (f.fsub a o h), fun a o h ha hn => ?_, fun a ha => ?_, fun a o h => ?_, fun a ps h => f.ft a ps (g.ft a ps h)⟩
  · refine g.keep a o (f.keep a o h ha hn) (fun h1 => ?_) hn
    rcases f.new a (List.mem_append_right _ h1) with q | q
    · exact ha q
    · exact fr_no h hn q
  · rcases List.mem_append.mp ha with ha | ha
    · exact f.new a (List.mem_append_left _ ha)
    · exact back a (g.new a ha)
  · rcases g.fnew a o h with h | h | h | ⟨xs, h⟩
    · exact f.fnew a o h
    · exact .inr ((back a (.inl h)).imp id .inl)
    · exact .inr ((back a (.inr h)).imp id .inl)
    · by_cases ha : a ∈ A
      · exact .inr (.inl ha)
      · refine .inr (.inr ?_)
        cases e : H a with
        | none => exact .inl (.inl e)
        | some o' =>
          by_cases ht : ∃ ps, o' = .tbl ps
          · obtain ⟨ps, rfl⟩ := ht
            exact .inl (.inr ⟨ps, e⟩)
          · have k := f.keep a o' e ha fun ps q => ht ⟨ps, q⟩
            rw [h] at k
            cases k
            exact .inr ⟨xs, e⟩
theorem Frm.trans0 {F H F1 H1 F2 H2 : Hp} {A A1 A2 : List Addr} (f : Frm F H A F1 H1 A1) (g : Frm F1 H1 A1 F2 H2 A2) : Frm F H A F2 H2 A2 := Frm.trans (B := []) f g
section
variable {K : PySem.W.Frag} {F H F' H' : Hp} {A A' B : List Addr} {v : V} {m : M}
mutual
theorem Ow.out : ∀ {v : V} {m : M} {B : List Addr}, Ow K F H v m B → ∀ a ∈ B, F a = none ∧ ∃ o, H a = some o ∧ Dt o
  | _, _, _, .fz _, a, h => by cases h
  | _, _, _, .ml n h _, a, ha => by cases ha with
    | head => exact ⟨n, _, h, trivial⟩
    | tail _ q => cases q
  | _, _, _, .md n h _, a, ha => by cases ha with
    | head => exact ⟨n, _, h, trivial⟩
    | tail _ q => cases q
  | _, _, _, .mt n h _, a, ha => by cases ha with
    | head => exact ⟨n, _, h, trivial⟩
    | tail _ q => cases q
  | _, _, _, .mo n h r, a, ha => by
    rcases List.mem_cons.mp ha with e | q
    · subst e; exact ⟨n, _, h, trivial⟩
    · exact OwF.out r a q
theorem FvO.out : ∀ {v : V} {m : FV} {B : List Addr}, FvO K F H v m B → ∀ a ∈ B, F a = none ∧ ∃ o, H a = some o ∧ Dt o
  | _, _, _, .fz _, a, h => by cases h
  | _, _, _, .own w, a, h => Ow.out w a h
theorem OwF.out : ∀ {vs : List (Str × V)} {fs : MF} {B : List Addr}, OwF K F H vs fs B → ∀ a ∈ B, F a = none ∧ ∃ o, H a = some o ∧ Dt o
  | _, _, _, .nil, a, h => by cases h
  | _, _, _, .cons w r, a, h => (List.mem_append.mp h).elim (FvO.out w a) (OwF.out r a)
end
theorem Frm.nof (f : Frm F H A F' H' A') {a : Addr} {o : HO} (n : F a = none) (h : H a = some o) (ha : a ∉ A) (hn : ∀ ps, o ≠ .tbl ps := by intro _ h; cases h) (ht : ∀ xs, o ≠ .tup xs := by intro _ h; cases h) : F' a = none := by
  cases e : F' a with
  | none => rfl
  | some o' =>
    rcases f.fnew a o' e with q | q | q | ⟨xs, q⟩
    · rw [n] at q; cases q
    · exact absurd q ha
    · exact absurd q (fr_no h hn)
    · rw [h] at q; cases q; exact absurd rfl (ht xs)
mutual
theorem Ow.keep (f : Frm F H A F' H' A') : ∀ {v : V} {m : M} {B : List Addr}, Ow K F H v m B → (∀ a ∈ B, a ∉ A) → Ow K F' H' v m B
  | _, _, _, .fz h, _ => .fz (h.mono (Sub.of f.fsub))
  | _, _, _, .ml n h r, hB => .ml (f.nof n h (hB _ List.mem_cons_self)) (f.keep _ _ h (hB _ List.mem_cons_self) (fun ps e => by cases e)) (r.mono (Sub.of f.fsub))
  | _, _, _, .md n h r, hB => .md (f.nof n h (hB _ List.mem_cons_self)) (f.keep _ _ h (hB _ List.mem_cons_self) (fun ps e => by cases e)) (r.mono (Sub.of f.fsub))
  | _, _, _, .mt n h r, hB => .mt (f.nof n h (hB _ List.mem_cons_self)) (f.keep _ _ h (hB _ List.mem_cons_self) (fun ps e => by cases e)) (r.mono (Sub.of f.fsub))
  | _, _, _, .mo n h r, hB => .mo (f.nof n h (hB _ List.mem_cons_self)) (f.keep _ _ h (hB _ List.mem_cons_self) (fun ps e => by cases e)) (OwF.keep f r fun a ha => hB a (List.mem_cons_of_mem _ ha))
theorem FvO.keep (f : Frm F H A F' H' A') : ∀ {v : V} {m : FV} {B : List Addr}, FvO K F H v m B → (∀ a ∈ B, a ∉ A) → FvO K F' H' v m B
  | _, _, _, .fz h, _ => .fz (h.mono (Sub.of f.fsub))
  | _, _, _, .own w, hB => .own (Ow.keep f w hB)
theorem OwF.keep (f : Frm F H A F' H' A') : ∀ {vs : List (Str × V)} {fs : MF} {B : List Addr}, OwF K F H vs fs B → (∀ a ∈ B, a ∉ A) → OwF K F' H' vs fs B
  | _, _, _, .nil, _ => .nil
  | _, _, _, .cons w r, hB => .cons (FvO.keep f w fun a ha => hB a (List.mem_append_left _ ha)) (OwF.keep f r fun a ha => hB a (List.mem_append_right _ ha))
end
theorem OwS.out : ∀ {σ : St} {s : DSt} {B : List Addr}, OwS K F H σ s B → ∀ a ∈ B, F a = none ∧ ∃ o, H a = some o ∧ Dt o
  | _, _, _, .nil, a, h => by cases h
  | _, _, _, .un r, a, h => r.out a h
  | _, _, _, .v w r, a, h => (List.mem_append.mp h).elim (w.out a) (r.out a)
  | _, _, _, .p w r, a, h => (List.mem_append.mp h).elim (w.out a) (r.out a)
theorem OwL.out : ∀ {xs : List V} {ms : List M} {B : List Addr}, OwL K F H xs ms B → ∀ a ∈ B, F a = none ∧ ∃ o, H a = some o ∧ Dt o
  | _, _, _, .nil, a, h => by cases h
  | _, _, _, .cons w r, a, h => (List.mem_append.mp h).elim (w.out a) (r.out a)
theorem OwS.keep (f : Frm F H A F' H' A') : ∀ {σ : St} {s : DSt} {B : List Addr}, OwS K F H σ s B → (∀ a ∈ B, a ∉ A) → OwS K F' H' σ s B
  | _, _, _, .nil, _ => .nil
  | _, _, _, .un r, h => .un (r.keep f h)
  | _, _, _, .v w r, h => .v (w.keep f fun a q => h a (List.mem_append_left _ q)) (r.keep f fun a q => h a (List.mem_append_right _ q))
  | _, _, _, .p w r, h => .p (w.keep f fun a q => h a (List.mem_append_left _ q)) (r.keep f fun a q => h a (List.mem_append_right _ q))
theorem OwL.keep (f : Frm F H A F' H' A') : ∀ {xs : List V} {ms : List M} {B : List Addr}, OwL K F H xs ms B → (∀ a ∈ B, a ∉ A) → OwL K F' H' xs ms B
  | _, _, _, .nil, _ => .nil
  | _, _, _, .cons w r, h => .cons (w.keep f fun a q => h a (List.mem_append_left _ q)) (r.keep f fun a q => h a (List.mem_append_right _ q))
theorem OwS.length : ∀ {σ : St} {s : DSt} {B : List Addr}, OwS K F H σ s B → σ.length = s.length
  | _, _, _, .nil => rfl
  | _, _, _, .un r => congrArg (· + 1) r.length
  | _, _, _, .v _ r => congrArg (· + 1) r.length
  | _, _, _, .p _ r => congrArg (· + 1) r.length
mutual
theorem Ow.view (s : Sub F H) : ∀ {v : V} {m : M} {B : List Addr}, Ow K F H v m B → Fz K H v m.frz
  | _, _, _, .fz h => h.mono s
  | _, _, _, .ml _ h r => .lst h (r.mono s)
  | _, _, _, .md _ h r => .dic (.inl h) (r.mono s)
  | _, _, _, .mt _ h r => .dit (.inl h) (r.mono s)
  | _, _, _, .mo _ h r => .obj h (OwF.view s r)
theorem FvO.view (s : Sub F H) : ∀ {v : V} {m : FV} {B : List Addr}, FvO K F H v m B → Fz K H v m.frz
  | _, _, _, .fz h => h.mono s
  | _, _, _, .own w => Ow.view s w
theorem OwF.view (s : Sub F H) : ∀ {vs : List (Str × V)} {fs : MF} {B : List Addr}, OwF K F H vs fs B → Fzf K H vs fs.frz
  | _, _, _, .nil => .nil
  | _, _, _, .cons w r => .cons (FvO.view s w) (OwF.view s r)
end
end
end DL
namespace DL
open PySem PySem.Spec L2
inductive W where
  | val (m : M)
  | slot (i : Nat)
  /-- the field f of the own instance in slot i, where x stands -/
  | fld (i : Nat) (f : Str) (x : V)
def Slot.m? : Slot → Option M
  | .un => none
  | .v m => some m
  | .p _ m => some m
def Slot.put : Slot → M → Slot
  | .un, _ => .un
  | .v _, m => .v m
  | .p x _, m => .p x m
def Slot.pinned : Slot → Bool
  | .p _ _ => true
  | _ => false
noncomputable def FV.ownAt (y : FV) (x : V) : Option M := match y with
  | .own z m => if (open Classical in decide (x = z)) = true then some m else none
  | _ => none
noncomputable def mAt (m : M) (f : Str) (x : V) : Option M := match m with
  | .mo _ fs => (fs.get f).bind fun y => y.ownAt x
  | _ => none
noncomputable def fldM (s : DSt) (i : Nat) (f : Str) (x : V) : Option M := ((s[i]?).bind Slot.m?).bind fun m => mAt m f x
def fldPut (s : DSt) (i : Nat) (f : Str) (n : FV) : DSt := match s[i]? with
  | some sl => match sl.m? with
    | some (.mo C fs) => s.set i (sl.put (.mo C (fs.put f n)))
    | _ => s
  | none => s
noncomputable def res (s : DSt) : W → Option D
  | .val m => some m.frz
  | .fld i f x => (fldM s i f x).map M.frz
  | .slot i => match s[i]? with
    | some sl => match sl.m? with
      | some m => some m.frz
      | none => none
    | none => none
inductive WOw (K : PySem.W.Frag) (F H : Hp) (σ : L2.St) : V → W → List Addr → Prop
  | val {v : V} {m : M} {B : List Addr} : Ow K F H v m B → WOw K F H σ v (.val m) B
  | slot {v : V} {i : Nat} : σ[i]? = some (some v) → WOw K F H σ v (.slot i) []
  | fld {v : V} {i : Nat} {f : Str} : WOw K F H σ v (.fld i f v) []
inductive WOws (K : PySem.W.Frag) (F H : Hp) (σ : L2.St) : List V → List W → List Addr → Prop
  | nil : WOws K F H σ [] [] []
  | cons {v : V} {w : W} {vs : List V} {ws : List W} {B1 B2 : List Addr} : WOw K F H σ v w B1 → WOws K F H σ vs ws B2 → WOws K F H σ (v :: vs) (w :: ws) (B1 ++ B2)
abbrev Pay := Option (List (Str × D))
def XPay (K : PySem.W.Frag) (F H : Hp) : Option Addr → Pay → Prop
  | none, none => True
  | some a, some fs => ∃ vs, F a = some (.xd vs) ∧ Fzf K F vs fs
  | _, _ => False
structure ZX where
  K : PySem.W.Frag
  W : WX
  D : Value → Pay → DSt → Prop
  /-- the tables of code objects, each with the name that its objects bear -/
  T : List (Addr × Str)
def TbF (T : List (Addr × Str)) (F : Hp) : Prop := (∀ p ∈ T, F p.1 = some (tmark p.2)) ∧ ∀ a ps, F a = some (.tbl ps) → ∃ q, ps = #[.int (-1) 0, .int 0 0, .str q 0] ∧ (a, q) ∈ T
theorem TbF.frm {T : List (Addr × Str)} {F H F' H' : Hp} {A A' : List Addr} (t : TbF T F) (f : Frm F H A F' H' A') : TbF T F' := ⟨fun p hp => f.fsub _ _ (t.1 p hp), fun a ps h => t.2 a ps (f.ft a ps h)⟩
structure ExImp (Z : ZX) (F H : Hp) (A : List Addr) : Prop where
  tb : TbF Z.T F
  im : ∀ (cls : Value) (d : Option Addr) (pl : Pay) (σ' : L2.St) (s' : DSt) (F' H' : Hp) (A' : List Addr),
    Frm F H A F' H' A' → Sub F' H' → OwS Z.K F' H' σ' s' A' → A'.Nodup → XPay Z.K F' H' d pl → Z.D cls pl s' → Z.W cls d σ' H'
theorem ExImp.step {Z : ZX} {F H F' H' : Hp} {A A' : List Addr} (e : ExImp Z F H A) (f : Frm F H A F' H' A') : ExImp Z F' H' A' :=
  ⟨e.tb.frm f, fun cls d pl σ' s' F2 H2 A2 g => e.im cls d pl σ' s' F2 H2 A2 (f.trans0 g)⟩
structure Rel (Z : ZX) (F H : Hp) (σ : L2.St) (s : DSt) (A : List Addr) : Prop where
  sub : Sub F H
  own : OwS Z.K F H σ s A
  nd : A.Nodup
  ex : ExImp Z F H A
structure Out (K : PySem.W.Frag) (F H : Hp) (A : List Addr) (σ : L2.St) (w : W) (s' : DSt) (v : V) (F' H' : Hp) (Av A' : List Addr) : Prop where
  fr : Frm F H A F' H' (Av ++ A')
  sub : Sub F' H'
  wow : WOw K F' H' σ v w Av
  own : OwS K F' H' σ s' A'
  nd : (Av ++ A').Nodup
structure Outs (K : PySem.W.Frag) (F H : Hp) (A : List Addr) (σ : L2.St) (ws : List W) (s' : DSt) (vs : List V) (F' H' : Hp) (Av A' : List Addr) : Prop where
  fr : Frm F H A F' H' (Av ++ A')
  sub : Sub F' H'
  wow : WOws K F' H' σ vs ws Av
  own : OwS K F' H' σ s' A'
  nd : (Av ++ A').Nodup
abbrev TD := DSt → (W → DSt → Prop) → Prop
abbrev TDs := DSt → (List W → DSt → Prop) → Prop
def Lift (Z : ZX) (t : TE) (m : TD) : Prop := ∀ (σ : L2.St) (H F : Hp) (A : List Addr) (s : DSt) (Q : VK) (Qd : W → DSt → Prop), Rel Z F H σ s A → m s Qd →
  (∀ w s' v F' H' Av A', Qd w s' → Out Z.K F H A σ w s' v F' H' Av A' → Q v H') → t σ H Q
def Lifts (Z : ZX) (t : TA) (m : TDs) : Prop := ∀ (σ : L2.St) (H F : Hp) (A : List Addr) (s : DSt) (Q : List V → Hp → Prop) (Qd : List W → DSt → Prop), Rel Z F H σ s A → m s Qd →
  (∀ ws s' vs F' H' Av A', Qd ws s' → Outs Z.K F H A σ ws s' vs F' H' Av A' → Q vs H') → t σ H Q
section
variable {Z : ZX} {K : PySem.W.Frag} {F H F' H' F2 H2 : Hp} {A A' A2 Av B : List Addr} {σ : L2.St} {s s' : DSt} {v : V} {w : W}
theorem WOw.keep (f : Frm F H A F' H' A') (x : WOw K F H σ v w B) (h : ∀ a ∈ B, a ∉ A) : WOw K F' H' σ v w B := by
  cases x with
  | val o => exact .val (o.keep f h)
  | slot e => exact .slot e
  | fld => exact .fld
theorem WOws.keep (f : Frm F H A F' H' A') : ∀ {vs : List V} {ws : List W} {B : List Addr}, WOws K F H σ vs ws B → (∀ a ∈ B, a ∉ A) → WOws K F' H' σ vs ws B
  | _, _, _, .nil, _ => .nil
  | _, _, _, .cons o r, h => .cons (o.keep f fun a q => h a (List.mem_append_left _ q)) (r.keep f fun a q => h a (List.mem_append_right _ q))
theorem WOw.out (x : WOw K F H σ v w B) : ∀ a ∈ B, F a = none ∧ ∃ o, H a = some o ∧ Dt o := by
  cases x with
  | val o => exact o.out
  | slot e => intro a h; cases h
  | fld => intro a h; cases h
theorem WOws.out : ∀ {vs : List V} {ws : List W} {B : List Addr}, WOws K F H σ vs ws B → ∀ a ∈ B, F a = none ∧ ∃ o, H a = some o ∧ Dt o
  | _, _, _, .nil, a, h => by cases h
  | _, _, _, .cons w r, a, h => (List.mem_append.mp h).elim (w.out a) (r.out a)
theorem nd_l {A B : List Addr} (h : (A ++ B).Nodup) : A.Nodup := (List.nodup_append.mp h).1
theorem nd_r {A B : List Addr} (h : (A ++ B).Nodup) : B.Nodup := (List.nodup_append.mp h).2.1
theorem nd_x {A B : List Addr} (h : (A ++ B).Nodup) : ∀ a ∈ A, a ∉ B := fun a ha hb => (List.nodup_append.mp h).2.2 a ha a hb rfl
theorem nd_mk {A B : List Addr} (h1 : A.Nodup) (h2 : B.Nodup) (h3 : ∀ a ∈ A, a ∉ B) : (A ++ B).Nodup :=
  List.nodup_append.mpr ⟨h1, h2, fun a ha b hb e => h3 a ha (e ▸ hb)⟩
theorem Out.rel (r : Rel Z F H σ s A) (o : Out Z.K F H A σ w s' v F' H' Av A') : Rel Z F' H' σ s' A' :=
  ⟨o.sub, o.own, nd_r o.nd, r.ex.step (o.fr.weak fun a h => List.mem_append_right _ h)⟩
theorem Outs.rel {ws : List W} {vs : List V} (r : Rel Z F H σ s A) (o : Outs Z.K F H A σ ws s' vs F' H' Av A') : Rel Z F' H' σ s' A' :=
  ⟨o.sub, o.own, nd_r o.nd, r.ex.step (o.fr.weak fun a h => List.mem_append_right _ h)⟩
theorem apart {B A A' : List Addr} (hB : ∀ a ∈ B, ∃ o, H a = some o ∧ Dt o) (hx : ∀ a ∈ B, a ∉ A) (f : Frm F H A F' H' A') : ∀ a ∈ B, a ∉ A' := fun a ha h => by
  rcases f.new a h with q | q
  · exact hx a ha q
  · obtain ⟨o, e, d⟩ := hB a ha
    exact fr_no e d.nt q
theorem OwS.get : ∀ {σ : L2.St} {s : DSt} {B : List Addr} {i : Nat} {sl : Slot} {m : M}, OwS K F H σ s B → s[i]? = some sl → sl.m? = some m → ∃ x C, σ[i]? = some (some x) ∧ Ow K F H x m C ∧ ∀ a ∈ C, a ∈ B
  | _, _, _, i, _, _, .nil, h, _ => by simp at h
  | _, _, _, 0, _, _, .un r, h, hm => by cases h; cases hm
  | _, _, _, 0, _, _, .v w r, h, hm => by cases h; cases hm; exact ⟨_, _, rfl, w, fun a h => List.mem_append_left _ h⟩
  | _, _, _, 0, _, _, .p w r, h, hm => by cases h; cases hm; exact ⟨_, _, rfl, w, fun a h => List.mem_append_left _ h⟩
  | _, _, _, i + 1, _, _, .un r, h, hm => OwS.get (i := i) r (by simpa using h) hm
  | _, _, _, i + 1, _, _, .v w r, h, hm => by
    obtain ⟨x, C, e, o, hC⟩ := OwS.get (i := i) r (by simpa using h) hm
    exact ⟨x, C, by simpa using e, o, fun a q => List.mem_append_right _ (hC a q)⟩
  | _, _, _, i + 1, _, _, .p w r, h, hm => by
    obtain ⟨x, C, e, o, hC⟩ := OwS.get (i := i) r (by simpa using h) hm
    exact ⟨x, C, by simpa using e, o, fun a q => List.mem_append_right _ (hC a q)⟩
theorem res_slot {i : Nat} {x : D} (h : res s (.slot i) = some x) : ∃ sl m, s[i]? = some sl ∧ sl.m? = some m ∧ m.frz = x := by
  unfold res at h
  cases e : s[i]? with
  | none => simp [e] at h
  | some sl =>
    cases e2 : sl.m? with
    | none => simp [e, e2] at h
    | some m => simp [e, e2] at h; exact ⟨sl, m, rfl, e2, h⟩
theorem OwF.get : ∀ {vs : List (Str × V)} {fs : MF} {B : List Addr} {f : Str} {y : FV}, OwF K F H vs fs B → fs.get f = some y → ∃ x C, vs.lookup f = some x ∧ FvO K F H x y C ∧ ∀ a ∈ C, a ∈ B
  | _, _, _, f, y, .nil, h => by cases h
  | _, _, _, f, y, .cons (f := g) w r, h => by
    unfold MF.get at h
    by_cases e : f = g
    · subst e
      rw [if_pos rfl] at h
      cases h
      exact ⟨_, _, by simp [List.lookup], w, fun a h => List.mem_append_left _ h⟩
    · rw [if_neg e] at h
      obtain ⟨x, C, h1, h2, h3⟩ := OwF.get r h
      refine ⟨x, C, ?_, h2, fun a h => List.mem_append_right _ (h3 a h)⟩
      rw [List.lookup_cons, beq_eq_false_iff_ne.mpr e]
      exact h1
theorem fldM_of {s : DSt} {i : Nat} {f : Str} {x : V} {m : M} (h : fldM s i f x = some m) : ∃ sl C fs, s[i]? = some sl ∧ sl.m? = some (.mo C fs) ∧ fs.get f = some (.own x m) := by
  unfold fldM at h
  obtain ⟨m0, h1, h2⟩ := Option.bind_eq_some_iff.mp h
  obtain ⟨sl, h3, h4⟩ := Option.bind_eq_some_iff.mp h1
  cases m0 with
  | mo C fs =>
    obtain ⟨y, h5, h6⟩ := Option.bind_eq_some_iff.mp (show ((fs.get f).bind fun y => y.ownAt x) = some m from h2)
    refine ⟨sl, C, fs, h3, h4, ?_⟩
    cases y with
    | fz _ => cases h6
    | own z m' =>
      unfold FV.ownAt at h6
      simp only at h6
      split at h6
      · rename_i q
        have q := of_decide_eq_true q
        subst q
        cases h6
        exact h5
      · cases h6
  | _ => cases h2
theorem WOw.res (x : WOw K F H σ v w B) (o : OwS K F H σ s A) {d : D} (h : DL.res s w = some d) : ∃ m C, Ow K F H v m C ∧ m.frz = d := by
  cases x with
  | val ow => exact ⟨_, _, ow, by simpa [DL.res] using h⟩
  | slot e =>
    obtain ⟨sl, m, h1, h2, h3⟩ := res_slot h
    obtain ⟨x, C, e', ow, _⟩ := o.get h1 h2
    rw [e] at e'
    cases e'
    exact ⟨m, C, ow, h3⟩
  | fld =>
    unfold DL.res at h
    obtain ⟨m, hm, rfl⟩ := Option.map_eq_some_iff.mp h
    obtain ⟨sl, C, fs, e1, e2, e3⟩ := fldM_of hm
    obtain ⟨x, B2, e', ow, _⟩ := o.get e1 e2
    cases ow with
    | mo _ _ r =>
      obtain ⟨_, C2, _, h2, _⟩ := r.get e3
      cases h2 with
      | own h2 => exact ⟨m, C2, h2, rfl⟩
theorem WOw.view (x : WOw K F H σ v w B) (sb : Sub F H) (o : OwS K F H σ s A) {d : D} (h : DL.res s w = some d) : Fz K H v d := by
  obtain ⟨m, C, ow, rfl⟩ := x.res o h
  exact ow.view sb
theorem OwS.split : ∀ {σ : L2.St} {s : DSt} {A : List Addr} {i : Nat} {sl : Slot} {m : M}, OwS K F H σ s A → s[i]? = some sl → sl.m? = some m → ∃ x B C E, σ[i]? = some (some x) ∧ Ow K F H x m B ∧ A = C ++ B ++ E ∧
    ∀ (F' H' : Hp) (B0 A0 : List Addr) (m' : M) (B' : List Addr), Frm F H B0 F' H' A0 → (∀ a ∈ C ++ E, a ∉ B0) → Ow K F' H' x m' B' → OwS K F' H' σ (s.set i (sl.put m')) (C ++ B' ++ E)
  | _, _, _, i, _, _, .nil, h, _ => by simp at h
  | _, _, _, 0, _, _, .un r, h, hm => by cases h; cases hm
  | _, _, _, 0, _, _, .v (A1 := A1) (A2 := A2) w r, h, hm => by
    cases h; cases hm
    exact ⟨_, A1, [], A2, rfl, w, rfl, fun F' H' B0 A0 m' B' f ha o => .v o (r.keep f fun a q => ha a (by simpa using q))⟩
  | _, _, _, 0, _, _, .p (A1 := A1) (A2 := A2) w r, h, hm => by
    cases h; cases hm
    exact ⟨_, A1, [], A2, rfl, w, rfl, fun F' H' B0 A0 m' B' f ha o => .p o (r.keep f fun a q => ha a (by simpa using q))⟩
  | _, _, _, i + 1, _, _, .un r, h, hm => by
    obtain ⟨x, B, C, E, e, o, hA, k⟩ := OwS.split (i := i) r (by simpa using h) hm
    exact ⟨x, B, C, E, by simpa using e, o, hA, fun F' H' B0 A0 m' B' f ha o => .un (k F' H' B0 A0 m' B' f ha o)⟩
  | _, _, _, i + 1, _, _, .v (A1 := A1) w r, h, hm => by
    obtain ⟨x, B, C, E, e, o, hA, k⟩ := OwS.split (i := i) r (by simpa using h) hm
    refine ⟨x, B, A1 ++ C, E, by simpa using e, o, by simp [hA], fun F' H' B0 A0 m' B' f ha o => ?_⟩
    have q := OwS.v (w.keep f fun a q => ha a (by simp [q])) (k F' H' B0 A0 m' B' f (fun a q => ha a (by simp at q ⊢; rcases q with q | q <;> simp [q])) o)
    simpa using q
  | _, _, _, i + 1, _, _, .p (A1 := A1) w r, h, hm => by
    obtain ⟨x, B, C, E, e, o, hA, k⟩ := OwS.split (i := i) r (by simpa using h) hm
    refine ⟨x, B, A1 ++ C, E, by simpa using e, o, by simp [hA], fun F' H' B0 A0 m' B' f ha o => ?_⟩
    have q := OwS.p (w.keep f fun a q => ha a (by simp [q])) (k F' H' B0 A0 m' B' f (fun a q => ha a (by simp at q ⊢; rcases q with q | q <;> simp [q])) o)
    simpa using q
theorem OwS.store : ∀ {σ : L2.St} {s : DSt} {A : List Addr} {i : Nat} {sl : Slot} {m : M} {B : List Addr}, OwS K F H σ s A → s[i]? = some sl → sl.pinned = false → Ow K F H v m B →
    ∃ A', OwS K F H (σ.set i (some v)) (s.set i (.v m)) A' ∧ (∀ a ∈ A', a ∈ B ∨ a ∈ A) ∧ ((B ++ A).Nodup → A'.Nodup)
  | _, _, _, i, _, _, _, .nil, h, _, _ => by simp at h
  | _, _, _, 0, _, _, B, .un (A := A2) r, h, hp, o => by
    refine ⟨B ++ A2, .v o r, fun a h => (List.mem_append.mp h), fun h => h⟩
  | _, _, _, 0, _, _, B, .v (A1 := A1) (A2 := A2) w r, h, hp, o => by
    refine ⟨B ++ A2, .v o r, fun a h => (List.mem_append.mp h).elim .inl fun q => .inr (List.mem_append_right _ q), fun h => ?_⟩
    exact nd_mk (nd_l h) (nd_r (nd_r h)) fun a ha hb => nd_x h a ha (List.mem_append_right _ hb)
  | _, _, _, 0, _, _, B, .p w r, h, hp, o => by cases h; cases hp
  | _, _, _, i + 1, _, _, B, .un r, h, hp, o => by
    obtain ⟨A', k, h1, h2⟩ := OwS.store (i := i) r (by simpa using h) hp o
    exact ⟨A', .un k, h1, h2⟩
  | _, _, _, i + 1, _, _, B, .v (A1 := A1) (A2 := A2) w r, h, hp, o => by
    obtain ⟨A', k, h1, h2⟩ := OwS.store (i := i) r (by simpa using h) hp o
    refine ⟨A1 ++ A', .v w k, fun a h => (List.mem_append.mp h).elim (fun q => .inr (List.mem_append_left _ q)) fun q => (h1 a q).imp id fun q => List.mem_append_right _ q, fun h => ?_⟩
    refine nd_mk (nd_l (nd_r h)) (h2 (nd_mk (nd_l h) (nd_r (nd_r h)) fun a ha hb => nd_x h a ha (List.mem_append_right _ hb))) fun a ha hb => ?_
    rcases h1 a hb with q | q
    · exact nd_x h a q (List.mem_append_left _ ha)
    · exact nd_x (nd_r h) a ha q
  | _, _, _, i + 1, _, _, B, .p (A1 := A1) (A2 := A2) w r, h, hp, o => by
    obtain ⟨A', k, h1, h2⟩ := OwS.store (i := i) r (by simpa using h) hp o
    refine ⟨A1 ++ A', .p w k, fun a h => (List.mem_append.mp h).elim (fun q => .inr (List.mem_append_left _ q)) fun q => (h1 a q).imp id fun q => List.mem_append_right _ q, fun h => ?_⟩
    refine nd_mk (nd_l (nd_r h)) (h2 (nd_mk (nd_l h) (nd_r (nd_r h)) fun a ha hb => nd_x h a ha (List.mem_append_right _ hb))) fun a ha hb => ?_
    rcases h1 a hb with q | q
    · exact nd_x h a q (List.mem_append_left _ ha)
    · exact nd_x (nd_r h) a ha q
theorem freeze_one {a : Addr} {o : HO} (n : F a = none) (h : H a = some o) (sb : Sub F H) (dt : Dt o) : Frm F H [a] (upd F a o) H [] ∧ Sub (upd F a o) H ∧ ∀ b, b ≠ a → upd F a o b = F b := by
  have e1 : ∀ b, b ≠ a → upd F a o b = F b := fun b hb => upd_ne hb
  refine ⟨.ext (fun b ob hb => ?_) (fun b ob hb => hb) (fun b hb => (nomatch hb)) (fun b ob hb => ?_) (fun b ps hb => by
    by_cases q : b = a
    · subst q; rw [upd_same] at hb; cases hb; exact dt.elim
    · rw [e1 b q] at hb; exact hb), fun b ob hb => ?_, e1⟩
  · by_cases q : b = a
    · subst q; rw [n] at hb; cases hb
    · rw [e1 b q]; exact hb
  · by_cases q : b = a
    · exact .inr (.inl (by simp [q]))
    · rw [e1 b q] at hb; exact .inl hb
  · by_cases q : b = a
    · subst q; rw [upd_same] at hb; cases hb; exact .inl h
    · rw [e1 b q] at hb; exact sb b ob hb
mutual
theorem Ow.freezeN : ∀ {F : Hp} {v : V} {m : M} {B : List Addr}, Ow K F H v m B → Sub F H → B.Nodup → ∃ F', Frm F H B F' H [] ∧ Sub F' H ∧ Fz K F' v m.frz
  | F, _, _, _, .fz h, sb, _ => ⟨F, Frm.refl, sb, h⟩
  | F, _, _, _, .ml n h r, sb, _ => by
    obtain ⟨f, s2, _⟩ := freeze_one n h sb trivial
    exact ⟨_, f, s2, .lst upd_same (r.mono (Sub.of f.fsub))⟩
  | F, _, _, _, .md n h r, sb, _ => by
    obtain ⟨f, s2, _⟩ := freeze_one n h sb trivial
    exact ⟨_, f, s2, .dic (.inl upd_same) (r.mono (Sub.of f.fsub))⟩
  | F, _, _, _, .mt n h r, sb, _ => by
    obtain ⟨f, s2, _⟩ := freeze_one n h sb trivial
    exact ⟨_, f, s2, .dit (.inl upd_same) (r.mono (Sub.of f.fsub))⟩
  | F, _, _, _, .mo n h r, sb, nd => by
    have ha := (List.nodup_cons.mp nd).1
    obtain ⟨F1, f1, s1, z⟩ := OwF.freezeN r sb (List.nodup_cons.mp nd).2
    have n1 := f1.nof n h ha
    obtain ⟨f2, s2, _⟩ := freeze_one n1 h s1 trivial
    refine ⟨_, ?_, s2, .obj upd_same (z.mono (Sub.of f2.fsub))⟩
    refine Frm.trans0 (A1 := [_]) (f1.more (fun a h => List.mem_cons_of_mem _ h) (fun a h => .inl ?_)) f2
    rw [List.mem_singleton.mp h]
    exact List.mem_cons_self
theorem FvO.freezeN : ∀ {F : Hp} {v : V} {m : FV} {B : List Addr}, FvO K F H v m B → Sub F H → B.Nodup → ∃ F', Frm F H B F' H [] ∧ Sub F' H ∧ Fz K F' v m.frz
  | F, _, _, _, .fz h, sb, _ => ⟨F, Frm.refl, sb, h⟩
  | F, _, _, _, .own w, sb, nd => Ow.freezeN w sb nd
theorem OwF.freezeN : ∀ {F : Hp} {vs : List (Str × V)} {fs : MF} {B : List Addr}, OwF K F H vs fs B → Sub F H → B.Nodup → ∃ F', Frm F H B F' H [] ∧ Sub F' H ∧ Fzf K F' vs fs.frz
  | F, _, _, _, .nil, sb, _ => ⟨F, Frm.refl, sb, .nil⟩
  | F, _, _, _, .cons w r, sb, nd => by
    obtain ⟨F1, f1, s1, z1⟩ := FvO.freezeN w sb (nd_l nd)
    have r1 := OwF.keep f1 r fun a ha hb => nd_x nd a hb ha
    obtain ⟨F2, f2, s2, z2⟩ := OwF.freezeN r1 s1 (nd_r nd)
    refine ⟨F2, ?_, s2, .cons (z1.mono (Sub.of f2.fsub)) z2⟩
    exact Frm.trans0 (f1.more (fun a h => List.mem_append_left _ h) (fun a h => .inl (List.mem_append_right _ h))) f2
end
theorem Ow.freeze {m : M} (w : Ow K F H v m B) (sb : Sub F H) (nd : B.Nodup) : ∃ F', Frm F H B F' H [] ∧ Sub F' H ∧ Fz K F' v m.frz := w.freezeN sb nd
theorem OwF.split : ∀ {vs : List (Str × V)} {fs : MF} {A : List Addr} {f : Str} {y : FV}, OwF K F H vs fs A → fs.get f = some y → ∃ x B C E, vs.lookup f = some x ∧ FvO K F H x y B ∧ A = C ++ B ++ E ∧
    ∀ (F' H' : Hp) (B0 A0 : List Addr) (y' : FV) (B' : List Addr), Frm F H B0 F' H' A0 → (∀ a ∈ C ++ E, a ∉ B0) → FvO K F' H' x y' B' → OwF K F' H' vs (fs.put f y') (C ++ B' ++ E)
  | _, _, _, f, y, .nil, h => by cases h
  | _, _, _, f, y, .cons (f := g) (A1 := A1) (A2 := A2) w r, h => by
    unfold MF.get at h
    by_cases e : f = g
    · subst e
      rw [if_pos rfl] at h
      cases h
      refine ⟨_, A1, [], A2, by simp [List.lookup], w, rfl, fun F' H' B0 A0 m' B' fr ha o => ?_⟩
      unfold MF.put
      rw [if_pos rfl]
      exact .cons o (r.keep fr fun a q => ha a (by simpa using q))
    · rw [if_neg e] at h
      obtain ⟨x, B, C, E, l, o, hA, k⟩ := OwF.split r h
      refine ⟨x, B, A1 ++ C, E, ?_, o, by simp [hA], fun F' H' B0 A0 m' B' fr ha o => ?_⟩
      · rw [List.lookup_cons, beq_eq_false_iff_ne.mpr e]
        exact l
      unfold MF.put
      rw [if_neg (Ne.symm e)]
      have q := OwF.cons (f := g) (w.keep fr fun a q => ha a (by simp [q])) (k F' H' B0 A0 m' B' fr (fun a q => ha a (by simp at q ⊢; rcases q with q | q <;> simp [q])) o)
      simpa using q
theorem OwF.store : ∀ {vs : List (Str × V)} {fs : MF} {A : List Addr} {f : Str} {x : V} {y : FV} {B : List Addr}, OwF K F H vs fs A → FvO K F H x y B →
    ∃ A', OwF K F H (putF f x vs) (fs.put f y) A' ∧ (∀ a ∈ A', a ∈ B ∨ a ∈ A) ∧ ((B ++ A).Nodup → A'.Nodup)
  | _, _, _, f, x, y, B, .nil, o => ⟨B ++ [], .cons o .nil, fun a h => .inl (by simpa using h), fun h => h⟩
  | _, _, _, f, x, y, B, .cons (f := g) (A1 := A1) (A2 := A2) w r, o => by
    unfold putF MF.put
    by_cases e : g = f
    · rw [if_pos e, if_pos e]
      refine ⟨B ++ A2, .cons o r, fun a h => (List.mem_append.mp h).imp id fun q => List.mem_append_right _ q, fun h => ?_⟩
      exact nd_mk (nd_l h) (nd_r (nd_r h)) fun a ha hb => nd_x h a ha (List.mem_append_right _ hb)
    · rw [if_neg e, if_neg e]
      obtain ⟨A', k, h1, h2⟩ := OwF.store (f := f) r o
      refine ⟨A1 ++ A', .cons w k, fun a h => (List.mem_append.mp h).elim (fun q => .inr (List.mem_append_left _ q)) fun q => (h1 a q).imp id fun q => List.mem_append_right _ q, fun h => ?_⟩
      refine nd_mk (nd_l (nd_r h)) (h2 (nd_mk (nd_l h) (nd_r (nd_r h)) fun a ha hb => nd_x h a ha (List.mem_append_right _ hb))) fun a ha hb => ?_
      rcases h1 a hb with q | q
      · exact nd_x h a q (List.mem_append_left _ ha)
      · exact nd_x (nd_r h) a ha q
noncomputable def tv (w : W) (s : DSt) (Q : M → DSt → Prop) : Prop :=
  match w with
  | .val m => Q m s
  | .slot i => match s[i]? with
    | some (.v m) => Q (.fz m.frz) (s.set i (.v (.fz m.frz)))
    | _ => False
  | .fld i f x => match fldM s i f x with
    | some m => Q (.fz m.frz) (fldPut s i f (.fz m.frz))
    | none => False
theorem mem3 {C B E : List Addr} {a : Addr} : a ∈ C ++ B ++ E ↔ a ∈ C ∨ a ∈ B ∨ a ∈ E := by simp [or_assoc]
theorem tv_ok {Qm : M → DSt → Prop} (o : WOw K F H σ v w B) (sb : Sub F H) (ow : OwS K F H σ s A) (nd : (B ++ A).Nodup) (h : tv w s Qm) :
    ∃ m s' F' B' A', Qm m s' ∧ Frm F H (B ++ A) F' H (B' ++ A') ∧ Sub F' H ∧ Ow K F' H v m B' ∧ OwS K F' H σ s' A' ∧ (B' ++ A').Nodup ∧ (∀ a ∈ B', a ∈ B) ∧ (∀ a ∈ A', a ∈ A) := by
  cases o with
  | val ow1 => exact ⟨_, _, F, B, A, h, Frm.refl, sb, ow1, ow, nd, fun _ q => q, fun _ q => q⟩
  | slot e =>
    rename_i i
    unfold tv at h
    cases es : s[i]? with
    | none => simp [es] at h
    | some sl =>
      cases sl with
      | un => simp [es] at h
      | p x m => simp [es] at h
      | v m =>
        simp [es] at h
        obtain ⟨x, B1, C, E, e', o1, hA, k⟩ := ow.split es rfl
        rw [e] at e'
        cases e'
        have ndA : (C ++ B1 ++ E).Nodup := by rw [← hA]; simpa using nd
        obtain ⟨F', f, s2, z⟩ := o1.freeze sb (nd_r (nd_l ndA))
        have hx : ∀ a ∈ C ++ E, a ∉ B1 := fun a ha hb => by
          rcases List.mem_append.mp ha with q | q
          · exact nd_x (nd_l ndA) a q hb
          · exact nd_x ndA a (List.mem_append_right _ hb) q
        have k2 := k F' H B1 [] (.fz m.frz) [] f hx (.fz z)
        have hs : ∀ a ∈ C ++ [] ++ E, a ∈ A := fun a ha => by
          rw [hA, mem3]
          rcases mem3.mp ha with q | q | q
          · exact .inl q
          · cases q
          · exact .inr (.inr q)
        refine ⟨_, _, F', [], C ++ [] ++ E, h, Frm.exF f.fsub (fun a o q => q) (fun a ha => .inl (hs a ha)) (fun a o q => ?_) f.ft, s2, .fz z, k2, ?_, fun _ q => q, hs⟩
        · rcases f.fnew a o q with q | q | q
          · exact .inl q
          · refine .inr (.inl ?_)
            show a ∈ A
            rw [hA, mem3]; exact .inr (.inl q)
          · exact .inr (.inr q)
        · show (C ++ [] ++ E).Nodup
          rw [List.append_nil]
          exact nd_mk (nd_l (nd_l ndA)) (nd_r ndA) fun a ha hb => nd_x ndA a (List.mem_append_left _ ha) hb
  | fld =>
    rename_i i f
    unfold tv at h
    cases em : fldM s i f v with
    | none => simp [em] at h
    | some m =>
      simp only [em] at h
      obtain ⟨sl, Cl, fs, e1, e2, e3⟩ := fldM_of em
      obtain ⟨x, B1, C, E, e', o1, hA, k⟩ := ow.split e1 e2
      have ndA : (C ++ B1 ++ E).Nodup := by rw [← hA]; simpa using nd
      cases o1 with
      | mo na ha r =>
        rename_i a0 dx vs B2
        obtain ⟨x3, B3, C3, E3, l3, o3, hB2, k3⟩ := r.split e3
        obtain ⟨rfl, o3⟩ : x3 = v ∧ Ow K F H v m B3 := by
          cases o3 with
          | own o => exact ⟨rfl, o⟩
        have nd1 : (a0 :: B2).Nodup := nd_r (nd_l ndA)
        have nd2 : (C3 ++ B3 ++ E3).Nodup := by rw [← hB2]; exact (List.nodup_cons.mp nd1).2
        have ha0 : a0 ∉ B2 := (List.nodup_cons.mp nd1).1
        obtain ⟨F', f', s2, z⟩ := o3.freeze sb (nd_r (nd_l nd2))
        have hx3 : ∀ a ∈ C3 ++ E3, a ∉ B3 := fun a ha hb => by
          rcases List.mem_append.mp ha with q | q
          · exact nd_x (nd_l nd2) a q hb
          · exact nd_x nd2 a (List.mem_append_right _ hb) q
        have r3 := k3 F' H B3 [] (.fz m.frz) [] f' hx3 (.fz z)
        have hB3 : ∀ a ∈ B3, a ∈ B2 := fun a q => by rw [hB2, mem3]; exact .inr (.inl q)
        have hs3 : ∀ a ∈ C3 ++ [] ++ E3, a ∈ B2 := fun a q => by
          rw [hB2, mem3]
          rcases mem3.mp q with q | q | q
          · exact .inl q
          · cases q
          · exact .inr (.inr q)
        have o4 : Ow K F' H (.ref a0) (.mo Cl (fs.put f (.fz m.frz))) (a0 :: (C3 ++ [] ++ E3)) := .mo (f'.nof na ha fun q => ha0 (hB3 _ q)) ha r3
        have hx : ∀ a ∈ C ++ E, a ∉ B3 := fun a ha hb => by
          have hb := List.mem_cons_of_mem a0 (hB3 a hb)
          rcases List.mem_append.mp ha with q | q
          · exact nd_x (nd_l ndA) a q hb
          · exact nd_x ndA a (List.mem_append_right _ hb) q
        have k2 := k F' H B3 [] _ _ f' hx o4
        have nd4 : (a0 :: (C3 ++ [] ++ E3)).Nodup := by
          refine List.nodup_cons.mpr ⟨fun q => ha0 (hs3 _ q), ?_⟩
          rw [List.append_nil]
          exact nd_mk (nd_l (nd_l nd2)) (nd_r nd2) fun a ha hb => nd_x nd2 a (List.mem_append_left _ ha) hb
        have hs4 : ∀ a ∈ a0 :: (C3 ++ [] ++ E3), a ∈ a0 :: B2 := fun a q => by
          rcases List.mem_cons.mp q with q | q
          · subst q; exact List.mem_cons_self
          · exact List.mem_cons_of_mem _ (hs3 a q)
        have hs : ∀ a ∈ C ++ (a0 :: (C3 ++ [] ++ E3)) ++ E, a ∈ A := fun a ha => by
          rw [hA, mem3]
          rcases mem3.mp ha with q | q | q
          · exact .inl q
          · exact .inr (.inl (hs4 a q))
          · exact .inr (.inr q)
        have ep : fldPut s i f (.fz m.frz) = s.set i (sl.put (.mo Cl (fs.put f (.fz m.frz)))) := by
          unfold fldPut
          rw [e1]
          simp only [e2]
        rw [ep] at h
        refine ⟨_, _, F', [], _, h, Frm.exF f'.fsub (fun a o q => q) (fun a ha => .inl (hs a ha)) (fun a o q => ?_) f'.ft, s2, .fz z, k2, ?_, fun _ q => q, hs⟩
        · rcases f'.fnew a o q with q | q | q
          · exact .inl q
          · refine .inr (.inl ?_)
            show a ∈ A
            rw [hA, mem3]; exact .inr (.inl (List.mem_cons_of_mem _ (hB3 _ q)))
          · exact .inr (.inr q)
        · show (C ++ (a0 :: (C3 ++ [] ++ E3)) ++ E).Nodup
          refine nd_mk (nd_mk (nd_l (nd_l ndA)) nd4 fun a ha hb => nd_x (nd_l ndA) a ha (hs4 a hb)) (nd_r ndA) fun a ha hb => ?_
          rcases List.mem_append.mp ha with q | q
          · exact nd_x ndA a (List.mem_append_left _ q) hb
          · exact nd_x ndA a (List.mem_append_right _ (hs4 a q)) hb
end
end DL
namespace DL
open PySem PySem.Spec L2
structure DE (Z : ZX) (X : Cx) (e : Expr) (t : TE) (m : TD) : Prop where
  pe : PE X e t
  lf : Lift Z t m
structure DA (Z : ZX) (X : Cx) (es : List Expr) (t : TA) (m : TDs) : Prop where
  pa : PA X es t
  lf : Lifts Z t m
abbrev TTd := DSt → (Bool → DSt → Prop) → Prop
structure OutT (K : PySem.W.Frag) (F H : Hp) (A : List Addr) (σ : L2.St) (s' : DSt) (F' H' : Hp) (A' : List Addr) : Prop where
  fr : Frm F H A F' H' A'
  sub : Sub F' H'
  own : OwS K F' H' σ s' A'
  nd : A'.Nodup
def LiftT (Z : ZX) (t : TT) (m : TTd) : Prop := ∀ (σ : L2.St) (H F : Hp) (A : List Addr) (s : DSt) (Q : Bool → Hp → Prop) (Qd : Bool → DSt → Prop), Rel Z F H σ s A → m s Qd →
  (∀ b s' F' H' A', Qd b s' → OutT Z.K F H A σ s' F' H' A' → Q b H') → t σ H Q
structure DT (Z : ZX) (X : Cx) (e : Expr) (t : TT) (m : TTd) : Prop where
  pt : PT X e t
  lf : LiftT Z t m
structure DW (Z : ZX) (X : Cx) (e : Expr) (t : TT) (m : TTd) : Prop where
  pw : PW X e t
  lf : LiftT Z t m
section
variable {Z : ZX} {X : Cx} {K : PySem.W.Frag} {F H F1 H1 F2 H2 F3 H3 : Hp} {A A1 A2 Av B : List Addr} {σ : L2.St} {s s1 s2 : DSt} {v : V} {w : W}
theorem OutT.rel (r : Rel Z F H σ s A) (o : OutT Z.K F H A σ s1 F1 H1 A1) : Rel Z F1 H1 σ s1 A1 := ⟨o.sub, o.own, o.nd, r.ex.step o.fr⟩
theorem Out.t {K : PySem.W.Frag} {v : V} (o : Out K F H A σ w s1 v F1 H1 Av A1) : OutT K F H A σ s1 F1 H1 A1 :=
  ⟨o.fr.weak fun a h => List.mem_append_right _ h, o.sub, o.own, nd_r o.nd⟩
theorem OutT.trans {K : PySem.W.Frag} (o : OutT K F H A σ s1 F1 H1 A1) (p : OutT K F1 H1 A1 σ s2 F2 H2 A2) : OutT K F H A σ s2 F2 H2 A2 :=
  ⟨o.fr.trans0 p.fr, p.sub, p.own, p.nd⟩
theorem OutT.out {K : PySem.W.Frag} (o : OutT K F H A σ s1 F1 H1 A1) (p : Out K F1 H1 A1 σ w s2 v F2 H2 Av A2) : Out K F H A σ w s2 v F2 H2 Av A2 :=
  ⟨o.fr.trans0 p.fr, p.sub, p.wow, p.own, p.nd⟩
structure Out2 (K : PySem.W.Frag) (F H : Hp) (A : List Addr) (σ : L2.St) (wa wb : W) (s' : DSt) (va vb : V) (F' H' : Hp) (Aa Ab A' : List Addr) : Prop where
  fr : Frm F H A F' H' ((Aa ++ Ab) ++ A')
  sub : Sub F' H'
  wa : WOw K F' H' σ va wa Aa
  wb : WOw K F' H' σ vb wb Ab
  own : OwS K F' H' σ s' A'
  nd : ((Aa ++ Ab) ++ A').Nodup
theorem Out.seq {K : PySem.W.Frag} {wa wb : W} {va vb : V} {Aa Ab : List Addr} (o : Out K F H A σ wa s1 va F1 H1 Aa A1) (p : Out K F1 H1 A1 σ wb s2 vb F2 H2 Ab A2) : Out2 K F H A σ wa wb s2 va vb F2 H2 Aa Ab A2 := by
  have hx := nd_x o.nd
  have h1 := apart (fun a h => (o.wow.out a h).2) hx p.fr
  refine ⟨by simpa using Frm.trans (B := Aa) o.fr p.fr, p.sub, o.wow.keep p.fr hx, p.wow, p.own, ?_⟩
  rw [List.append_assoc]
  exact nd_mk (nd_l o.nd) p.nd h1
theorem Out.cons {K : PySem.W.Frag} {wa : W} {ws : List W} {va : V} {vs : List V} {Aa Ab : List Addr} (o : Out K F H A σ wa s1 va F1 H1 Aa A1) (p : Outs K F1 H1 A1 σ ws s2 vs F2 H2 Ab A2) : Outs K F H A σ (wa :: ws) s2 (va :: vs) F2 H2 (Aa ++ Ab) A2 := by
  have hx := nd_x o.nd
  have h1 := apart (fun a h => (o.wow.out a h).2) hx p.fr
  refine ⟨by simpa using Frm.trans (B := Aa) o.fr p.fr, p.sub, .cons (o.wow.keep p.fr hx) p.wow, p.own, ?_⟩
  rw [List.append_assoc]
  exact nd_mk (nd_l o.nd) p.nd h1
theorem Out.fin {K : PySem.W.Frag} {z : M} (f : Frm F H A F2 H2 (B ++ A2)) (ow : OwS K F2 H2 σ s A2) (nd : (B ++ A2).Nodup) (g : Frm F2 H2 [] F3 H3 Av) (sb : Sub F3 H3) (o : Ow K F3 H3 v z Av) (nv : Av.Nodup) : Out K F H A σ (.val z) s v F3 H3 Av A2 := by
  have f2 : Frm F H A F2 H2 (A2 ++ []) := f.weak fun a h => List.mem_append_right _ (by simpa using h)
  have f3 := Frm.trans (B := A2) f2 g
  refine ⟨f3.weak fun a h => (List.mem_append.mp h).elim (List.mem_append_right _) (List.mem_append_left _), sb, .val o, ow.keep g (fun a _ h => nomatch h), ?_⟩
  refine nd_mk nv (nd_r nd) fun a ha hb => ?_
  rcases g.new a ha with q | q
  · cases q
  · obtain ⟨o', e, d⟩ := (ow.out a hb).2
    exact fr_no e d.nt q
theorem Out.fin0 {K : PySem.W.Frag} {d : D} (f : Frm F H A F2 H2 (B ++ A2)) (sb : Sub F2 H2) (ow : OwS K F2 H2 σ s A2) (nd : (B ++ A2).Nodup) (z : Fz K F2 v d) : Out K F H A σ (.val (.fz d)) s v F2 H2 [] A2 :=
  ⟨f.weak fun a h => List.mem_append_right _ (by simpa using h), sb, .val (.fz z), ow, nd_r nd⟩
def mVar (i : Nat) : TD := fun s Q => match s[i]? with
  | some (.v _) => Q (.slot i) s
  | some (.p _ _) => Q (.slot i) s
  | _ => False
theorem Lift.var {i : Nat} : Lift Z (tVar i) (mVar i) := by
  intro σ H F A s Q Qd R h k
  unfold mVar at h
  cases e : s[i]? with
  | none => simp [e] at h
  | some sl =>
    cases sl with
    | un => simp [e] at h
    | v m =>
      simp [e] at h
      obtain ⟨x, C, e', o, _⟩ := R.own.get e rfl
      exact ⟨x, e', k _ _ _ _ _ [] _ h ⟨Frm.refl, R.sub, .slot e', R.own, R.nd⟩⟩
    | p x' m =>
      simp [e] at h
      obtain ⟨x, C, e', o, _⟩ := R.own.get e rfl
      exact ⟨x, e', k _ _ _ _ _ [] _ h ⟨Frm.refl, R.sub, .slot e', R.own, R.nd⟩⟩
theorem dv (i : Nat) {x : Str} {pos : Pos} (hN : X.N[i]? = some x := by rfl) (hv : Vis X.env.scope x := by first | exact Or.inl rfl | exact Or.inr (Or.inl rfl) | exact Or.inr (Or.inr rfl)) (hd : (x == ("__debug__" : Str)) = false := by decide) (hcd : (x == ("__classdict__" : Str)) = false := by decide) : DE Z X (.Name x pos) (tVar i) (mVar i) :=
  ⟨pv i hN hv hd hcd, Lift.var⟩
def mC (d : D) : TD := fun s Q => Q (.val (.fz d)) s
theorem Lift.const {v : V} {d : D} (z : ∀ F : Hp, Fz Z.K F v d) : Lift Z (tC v) (mC d) :=
  fun σ H F A s Q Qd R h k => k _ _ _ _ _ [] _ h ⟨Frm.refl, R.sub, .val (.fz (z F)), R.own, R.nd⟩
theorem de_int {i j pos} : DE Z X (.Constant (.int i) j pos) (tC (.int i)) (mC (.int i)) := ⟨pe_int, .const fun _ => .int i⟩
theorem de_bl {b j pos} : DE Z X (.Constant (.bool b) j pos) (tC (.bl b)) (mC (.bl b)) := ⟨pe_bl, .const fun _ => .bl b⟩
theorem de_non {j pos} : DE Z X (.Constant .none j pos) (tC .non) (mC .non) := ⟨pe_non, .const fun _ => .non⟩
theorem de_str {x j pos} : DE Z X (.Constant (.str x) j pos) (tC (.str x)) (mC (.str x)) := ⟨pe_str, .const fun _ => .str x⟩
theorem de_glob {x : Str} {v : V} {u : Value} {d : D} {pos : Pos} (hg : Gl X x) (hm : X.mg x = some u) (r : RelV v u) (z : ∀ F : Hp, Fz Z.K F v d) (hd : (x == ("__debug__" : Str)) = false := by decide) : DE Z X (.Name x pos) (tC v) (mC d) :=
  ⟨pe_glob hg hm r hd, .const z⟩
def OpD (K : PySem.W.Frag) (r : R2) (f : D → D → M → Prop) : Prop := ∀ (F H : Hp) (x y : V) (m1 m2 : M) (B1 B2 : List Addr) (z : M) (Q : VK), Sub F H → Ow K F H x m1 B1 → Ow K F H y m2 B2 → f m1.frz m2.frz z →
  (∀ v F' H' Av, Frm F H [] F' H' Av → Sub F' H' → Ow K F' H' v z Av → Av.Nodup → Q v H') → r x y H Q
def mOp (f : D → D → M → Prop) (ma mb : TD) : TD := fun s Q => ma s fun wa s1 => mb s1 fun wb s2 => ∃ x y z, res s2 wa = some x ∧ res s2 wb = some y ∧ f x y z ∧ Q (.val z) s2
theorem Lift.op {r : R2} {f : D → D → M → Prop} {ta tb : TE} {ma mb : TD} (ho : OpD Z.K r f) (la : Lift Z ta ma) (lb : Lift Z tb mb) : Lift Z (tOp r ta tb) (mOp f ma mb) := by
  intro σ H F A s Q Qd R h k
  refine la σ H F A s _ _ R h fun wa s1 va F1 H1 Aa A1 h1 o1 => ?_
  refine lb σ H1 F1 A1 s1 _ _ (o1.rel R) h1 fun wb s2 vb F2 H2 Ab A2 h2 o2 => ?_
  obtain ⟨x, y, z, ex, ey, hz, q⟩ := h2
  have p := o1.seq o2
  obtain ⟨m1, C1, w1, rfl⟩ := p.wa.res p.own ex
  obtain ⟨m2, C2, w2, rfl⟩ := p.wb.res p.own ey
  exact ho F2 H2 va vb m1 m2 C1 C2 z Q p.sub w1 w2 hz fun v F' H' Av g sb ow nv => k _ _ _ _ _ _ _ q (Out.fin p.fr p.own p.nd g sb ow nv)
theorem OpD.flat {r : R2} {f : D → D → M → Prop} (h : ∀ (F H : Hp) (x y : V) (d e : D) (z : M) (Q : VK), Sub F H → Fz K H x d → Fz K H y e → f d e z → ∃ d', z = .fz d' ∧ ∃ u, (∀ F, Fz K F u d') ∧ (Q u H → r x y H Q)) : OpD K r f := by
  intro F H x y m1 m2 B1 B2 z Q sb w1 w2 hz k
  obtain ⟨d', rfl, u, zu, q⟩ := h F H x y _ _ z Q sb (w1.view sb) (w2.view sb) hz
  exact q (k u F H [] Frm.refl sb (.fz (zu F)) List.nodup_nil)
theorem OpD.or {r r' : R2} {f f' : D → D → M → Prop} (h : OpD K r f) (h' : OpD K r' f') : OpD K (fun x y H Q => r x y H Q ∨ r' x y H Q) (fun x y z => f x y z ∨ f' x y z) := by
  intro F H x y m1 m2 B1 B2 z Q sb w1 w2 hz k
  rcases hz with hz | hz
  · exact .inl (h F H x y m1 m2 B1 B2 z Q sb w1 w2 hz k)
  · exact .inr (h' F H x y m1 m2 B1 B2 z Q sb w1 w2 hz k)
theorem de_op {op : Operator} {r : R2} {f : D → D → M → Prop} {a b : Expr} {ta tb : TE} {ma mb : TD} {pos : Pos} (hx : OpR X (binaryOp op) r) (ho : OpD Z.K r f) (ha : DE Z X a ta ma) (hb : DE Z X b tb mb) : DE Z X (.BinOp a op b pos) (tOp r ta tb) (mOp f ma mb) :=
  ⟨pe_op hx ha.pe hb.pe, .op ho ha.lf hb.lf⟩
theorem de_cmp {op : CmpOp} {r : R2} {f : D → D → M → Prop} {a b : Expr} {ta tb : TE} {ma mb : TD} {pos : Pos} (hx : OpR X (compareOp op) r) (ho : OpD Z.K r f) (ha : DE Z X a ta ma) (hb : DE Z X b tb mb) (hm : behindInMarks op b = false) : DE Z X (.Compare a [op] [b] pos) (tOp r ta tb) (mOp f ma mb) :=
  ⟨pe_cmpR hx ha.pe hb.pe hm, .op ho ha.lf hb.lf⟩
def mTest (m : TD) : TTd := fun s Q => m s fun w s' => ∃ b, res s' w = some (.bl b) ∧ Q b s'
theorem Lift.test {t : TE} {m : TD} (l : Lift Z t m) : LiftT Z (tTest t) (mTest m) := by
  intro σ H F A s Q Qd R h k
  refine l σ H F A s _ _ R h fun w s1 v F1 H1 Av A1 h1 o1 => ?_
  obtain ⟨b, e, q⟩ := h1
  have z := o1.wow.view o1.sub o1.own e
  cases z
  exact ⟨b, rfl, k _ _ _ _ _ q o1.t⟩
theorem dt_cmp {op : CmpOp} {r : R2} {f : D → D → M → Prop} {a b : Expr} {ta tb : TE} {ma mb : TD} {pos : Pos} (hx : OpR X (compareOp op) r) (ho : OpD Z.K r f) (ha : DE Z X a ta ma) (hb : DE Z X b tb mb) (hm : behindInMarks op b = false) : DT Z X (.Compare a [op] [b] pos) (tTest (tOp r ta tb)) (mTest (mOp f ma mb)) :=
  ⟨pt_cmpR hx ha.pe hb.pe hm, (Lift.op ho ha.lf hb.lf).test⟩
def mChain (f f' : D → D → M → Prop) (ma mb mc : TD) : TD := fun s Q => ma s fun wa s1 => mb s1 fun wb s2 => ∃ x y z, res s2 wa = some x ∧ res s2 wb = some y ∧ f x y (.fz (.bl z)) ∧
  (if z = true then mc s2 fun wc s3 => ∃ y' u r, res s3 wb = some y' ∧ res s3 wc = some u ∧ f' y' u r ∧ Q (.val r) s3 else Q (.val (.fz (.bl false))) s2)
theorem Lift.chain {r r' : R2} {f f' : D → D → M → Prop} {ta tb tc : TE} {ma mb mc : TD} (ho : OpD Z.K r f) (ho' : OpD Z.K r' f') (la : Lift Z ta ma) (lb : Lift Z tb mb) (lc : Lift Z tc mc) : Lift Z (tChain r r' ta tb tc) (mChain f f' ma mb mc) := by
  intro σ H F A s Q Qd R h k
  refine la σ H F A s _ _ R h fun wa s1 va F1 H1 Aa A1 h1 o1 => ?_
  refine lb σ H1 F1 A1 s1 _ _ (o1.rel R) h1 fun wb s2 vb F2 H2 Ab A2 h2 o2 => ?_
  obtain ⟨x, y, z, ex, ey, hz, q⟩ := h2
  have p := o1.seq o2
  obtain ⟨m1, C1, w1, rfl⟩ := p.wa.res p.own ex
  obtain ⟨m2, C2, w2, rfl⟩ := p.wb.res p.own ey
  have f12 := Frm.trans0 (o1.fr.weak fun a h => List.mem_append_right _ h) o2.fr
  refine ho F2 H2 va vb m1 m2 C1 C2 _ _ p.sub w1 w2 hz fun v F' H' Av g sb ow nv => ?_
  cases ow with
  | fz zz =>
    cases zz
    refine ⟨z, rfl, ?_⟩
    have o3 := Out.fin f12 p.own (nd_r (A := Aa) (by simpa using p.nd)) g sb (.fz (.bl z)) List.nodup_nil
    have wb3 : WOw Z.K F' H' σ vb wb Ab := p.wb.keep g fun a _ h => nomatch h
    cases z with
    | false =>
      rw [if_neg Bool.false_ne_true] at q ⊢
      exact k _ _ _ _ _ _ _ q o3
    | true =>
      rw [if_pos rfl] at q ⊢
      have ndb : (Ab ++ A2).Nodup := nd_r (A := Aa) (by simpa using p.nd)
      have f3 : Frm F H A F' H' (Ab ++ A2) := (Frm.trans (B := Ab ++ A2) (A1 := []) (by simpa using f12) g).weak fun a h => List.mem_append_left _ h
      have o4 : Out Z.K F H A σ wb s2 vb F' H' Ab A2 := ⟨f3, sb, wb3, o3.own, ndb⟩
      refine lc σ H' F' A2 s2 _ _ (o4.rel R) q fun wc s3 vc F4 H4 Ac A4 h4 o5 => ?_
      obtain ⟨y', u, r1, ey', eu, hr, q'⟩ := h4
      have p2 := o4.seq o5
      obtain ⟨n1, D1, v1, rfl⟩ := p2.wa.res p2.own ey'
      obtain ⟨n2, D2, v2, rfl⟩ := p2.wb.res p2.own eu
      exact ho' F4 H4 vb vc n1 n2 D1 D2 r1 Q p2.sub v1 v2 hr fun v F' H' Av g sb ow nv => k _ _ _ _ _ _ _ q' (Out.fin p2.fr p2.own p2.nd g sb ow nv)
theorem de_chain {op op' : CmpOp} {r r' : R2} {f f' : D → D → M → Prop} {a b c : Expr} {ta tb tc : TE} {ma mb mc : TD} {pos : Pos} (hx : OpR X (compareOp op) r) (ho : OpD Z.K r f) (hx' : OpR X (compareOp op') r') (ho' : OpD Z.K r' f') (ha : DE Z X a ta ma) (hb : DE Z X b tb mb) (hc : DE Z X c tc mc) (hm : lastMarks [op, op'] [b, c] = false := by with_unfolding_all rfl) : DE Z X (.Compare a [op, op'] [b, c] pos) (tChain r r' ta tb tc) (mChain f f' ma mb mc) :=
  ⟨pe_chain hx hx' ha.pe hb.pe hc.pe hm, .chain ho ho' ha.lf hb.lf hc.lf⟩
theorem dt_chain {op op' : CmpOp} {r r' : R2} {f f' : D → D → M → Prop} {a b c : Expr} {ta tb tc : TE} {ma mb mc : TD} {pos : Pos} (hx : OpR X (compareOp op) r) (ho : OpD Z.K r f) (hx' : OpR X (compareOp op') r') (ho' : OpD Z.K r' f') (ha : DE Z X a ta ma) (hb : DE Z X b tb mb) (hc : DE Z X c tc mc) (hm : lastMarks [op, op'] [b, c] = false := by with_unfolding_all rfl) : DT Z X (.Compare a [op, op'] [b, c] pos) (tTest (tChain r r' ta tb tc)) (mTest (mChain f f' ma mb mc)) :=
  ⟨pt_chain hx hx' ha.pe hb.pe hc.pe hm, (Lift.chain ho ho' ha.lf hb.lf hc.lf).test⟩
def D.truth : D → Bool → Prop
  | .non, k => k = false
  | .bl b, k => k = b
  | .int i, k => k = (i != 0)
  | .str x, k => x.length ≤ sizeLine ∧ k = ((x.length : Int) != 0)
  | .lst ds, k => k = !ds.isEmpty
  | .tup ds, k => k = !ds.isEmpty
  | .wtu ds, k => k = !ds.isEmpty
  | .dic ds, k => k = !ds.isEmpty
  | _, _ => False
def TruD (K : PySem.W.Frag) (x : V) (H : Hp) (k : Bool) : Prop := TruV K x H k ∨ ∃ p kvs, x = .ref p ∧ Rd H p (.dK kvs) ∧ k = !kvs.isEmpty
theorem tru_okD : TruR X (fun x H Q => ∃ k, TruD X.K x H k ∧ Q k H) := by
  intro pins s σ H x v Q I rx h
  obtain ⟨k, e, q⟩ := h
  rcases e with e | ⟨p, kvs, rfl, r, e⟩
  · exact tru_ok pins s σ H x v Q I rx ⟨k, e, q⟩
  · cases rx
    subst e
    exact d_truth I r fun s' I' => ⟨H, I', q⟩
theorem pt_truthD {a : Expr} {ta : TE} (ha : PE X a ta) (he : ∀ whole, isTrue a X.env whole = (do let v ← whole; standAt a.pos; holding [v] (truthy v))) : PT X a (fun σ H Q => ta σ H fun x H' => ∃ k, TruD X.K x H' k ∧ Q k H') := by
  refine ⟨fun pins s σ H Q I h => ?_⟩
  exact PyProof.Rows.isTrue_plain (thn (ha.run pins s σ H _ I h) fun v s1 ⟨x, H1, I1, r1, q1⟩ => tru_okD pins s1 σ H1 x v Q I1 r1 q1) (he _)
def mTruth (m : TD) : TTd := fun s Q => m s fun w s' => ∃ x b, res s' w = some x ∧ x.truth b ∧ Q b s'
theorem emp_of {α β : Type} {xs : List α} {ys : List β} (h : xs.length = ys.length) : xs.isEmpty = ys.isEmpty := by
  cases xs <;> cases ys <;> simp_all
theorem Fz.truth {K : PySem.W.Frag} {H : Hp} {v : V} {d : D} {b : Bool} (z : Fz K H v d) (tr : d.truth b) : TruD K v H b := by
  cases z with
  | non => exact .inl tr
  | bl b => exact .inl tr
  | int i => exact .inl tr
  | str x => exact .inl tr
  | tup h r => exact .inl (.inr (.inl ⟨_, SqT.of h, by rw [emp_of r.length]; exact tr⟩))
  | wtu h r => exact .inl (.inr (.inl ⟨_, .inr h, by rw [emp_of r.length]; exact tr⟩))
  | lst h r => exact .inl (.inl ⟨_, SqL.of h, by rw [emp_of r.length]; exact tr⟩)
  | scr h => exact tr.elim
  | dic h r => exact .inr ⟨_, _, rfl, h, by rw [emp_of r.length]; exact tr⟩
  | dit h r => exact tr.elim
  | dil h r => exact tr.elim
  | obj h r => exact tr.elim
  | ref a => exact tr.elim
  | ty n => exact tr.elim
  | exc h r => exact tr.elim
theorem Lift.truth {t : TE} {m : TD} (l : Lift Z t m) : LiftT Z (fun σ H Q => t σ H fun x H' => ∃ k, TruD Z.K x H' k ∧ Q k H') (mTruth m) := by
  intro σ H F A s Q Qd R h k
  refine l σ H F A s _ _ R h fun w s1 v F1 H1 Av A1 h1 o1 => ?_
  obtain ⟨x, b, e, tr, q⟩ := h1
  exact ⟨b, (o1.wow.view o1.sub o1.own e).truth tr, k _ _ _ _ _ q o1.t⟩
theorem dt_truth {a : Expr} {t : TE} {m : TD} (ha : DE Z X a t m) (hK : X.K = Z.K := by rfl) (he : ∀ whole, isTrue a X.env whole = (do let v ← whole; standAt a.pos; holding [v] (truthy v)) := by intro _; rfl) : DT Z X a (fun σ H Q => t σ H fun x H' => ∃ k, TruD Z.K x H' k ∧ Q k H') (mTruth m) :=
  ⟨by rw [← hK]; exact pt_truthD ha.pe he, ha.lf.truth⟩
theorem DW.pt {e : Expr} {t : TT} {m : TTd} (h : DW Z X e t m) : DT Z X e t m := ⟨h.pw.pt, h.lf⟩
def mAnd (m n : TTd) : TTd := fun s Q => m s fun c s1 => if c = true then n s1 Q else Q false s1
def mOr (m n : TTd) : TTd := fun s Q => m s fun c s1 => if c = true then Q true s1 else n s1 Q
def mNot (m : TTd) : TTd := fun s Q => m s fun c s1 => Q (!c) s1
theorem LiftT.and {t u : TT} {m n : TTd} (l : LiftT Z t m) (l' : LiftT Z u n) : LiftT Z (tAnd t u) (mAnd m n) := by
  intro σ H F A s Q Qd R h k
  refine l σ H F A s _ _ R h fun c s1 F1 H1 A1 h1 o1 => ?_
  cases c with
  | false =>
    rw [if_neg Bool.false_ne_true] at h1 ⊢
    exact k _ _ _ _ _ h1 o1
  | true =>
    rw [if_pos rfl] at h1 ⊢
    exact l' σ H1 F1 A1 s1 _ _ (o1.rel R) h1 fun c s2 F2 H2 A2 h2 o2 => k _ _ _ _ _ h2 (o1.trans o2)
theorem LiftT.or {t u : TT} {m n : TTd} (l : LiftT Z t m) (l' : LiftT Z u n) : LiftT Z (tOr t u) (mOr m n) := by
  intro σ H F A s Q Qd R h k
  refine l σ H F A s _ _ R h fun c s1 F1 H1 A1 h1 o1 => ?_
  cases c with
  | true =>
    rw [if_pos rfl] at h1 ⊢
    exact k _ _ _ _ _ h1 o1
  | false =>
    rw [if_neg Bool.false_ne_true] at h1 ⊢
    exact l' σ H1 F1 A1 s1 _ _ (o1.rel R) h1 fun c s2 F2 H2 A2 h2 o2 => k _ _ _ _ _ h2 (o1.trans o2)
theorem LiftT.not {t : TT} {m : TTd} (l : LiftT Z t m) : LiftT Z (tNot t) (mNot m) := by
  intro σ H F A s Q Qd R h k
  exact l σ H F A s _ _ R h fun c s1 F1 H1 A1 h1 o1 => k _ _ _ _ _ h1 o1
theorem dw_and1 {a : Expr} {t : TT} {m : TTd} {pos : Pos} (h : DT Z X a t m) : DW Z X (.BoolOp .And [a] pos) t m := ⟨pw_and1 h.pt, h.lf⟩
theorem dw_or1 {a : Expr} {t : TT} {m : TTd} {pos : Pos} (h : DT Z X a t m) : DW Z X (.BoolOp .Or [a] pos) t m := ⟨pw_or1 h.pt, h.lf⟩
theorem dw_and {a b : Expr} {rest : List Expr} {t u : TT} {m n : TTd} {pos : Pos} (h : DT Z X a t m) (h' : DW Z X (.BoolOp .And (b :: rest) pos) u n) : DW Z X (.BoolOp .And (a :: b :: rest) pos) (tAnd t u) (mAnd m n) := ⟨pw_and h.pt h'.pw, h.lf.and h'.lf⟩
theorem dw_or {a b : Expr} {rest : List Expr} {t u : TT} {m n : TTd} {pos : Pos} (h : DT Z X a t m) (h' : DW Z X (.BoolOp .Or (b :: rest) pos) u n) : DW Z X (.BoolOp .Or (a :: b :: rest) pos) (tOr t u) (mOr m n) := ⟨pw_or h.pt h'.pw, h.lf.or h'.lf⟩
theorem dt_not {a : Expr} {t : TT} {m : TTd} {pos : Pos} (h : DT Z X a t m) : DT Z X (.UnaryOp .Not a pos) (tNot t) (mNot m) := ⟨pt_not h.pt, h.lf.not⟩
def mAndV (m n : TD) : TD := fun s Q => m s fun w s1 => ∃ c, res s1 w = some (.bl c) ∧ if c = true then n s1 Q else Q (.val (.fz (.bl false))) s1
def mOrV (m n : TD) : TD := fun s Q => m s fun w s1 => ∃ c, res s1 w = some (.bl c) ∧ if c = true then Q (.val (.fz (.bl true))) s1 else n s1 Q
def mNotV (m : TD) : TD := fun s Q => m s fun w s1 => ∃ c, res s1 w = some (.bl c) ∧ Q (.val (.fz (.bl (!c)))) s1
theorem Out.flat {K : PySem.W.Frag} {u : V} {d : D} (o : Out K F H A σ w s1 v F1 H1 Av A1) (z : Fz K F1 u d) : Out K F H A σ (.val (.fz d)) s1 u F1 H1 [] A1 :=
  Out.fin0 o.fr o.sub o.own o.nd z
theorem Lift.andV {t u : TE} {m n : TD} (l : Lift Z t m) (l' : Lift Z u n) : Lift Z (tAndV t u) (mAndV m n) := by
  intro σ H F A s Q Qd R h k
  refine l σ H F A s _ _ R h fun w s1 v F1 H1 Av A1 h1 o1 => ?_
  obtain ⟨c, e, q⟩ := h1
  have z := o1.wow.view o1.sub o1.own e
  cases z
  refine ⟨c, rfl, ?_⟩
  cases c with
  | false =>
    rw [if_neg Bool.false_ne_true] at q ⊢
    exact k _ _ _ _ _ _ _ q (o1.flat (.bl false))
  | true =>
    rw [if_pos rfl] at q ⊢
    exact l' σ H1 F1 A1 s1 _ _ (o1.rel R) q fun w s2 v F2 H2 Av A2 h2 o2 => k _ _ _ _ _ _ _ h2 (o1.t.out o2)
theorem Lift.orV {t u : TE} {m n : TD} (l : Lift Z t m) (l' : Lift Z u n) : Lift Z (tOrV t u) (mOrV m n) := by
  intro σ H F A s Q Qd R h k
  refine l σ H F A s _ _ R h fun w s1 v F1 H1 Av A1 h1 o1 => ?_
  obtain ⟨c, e, q⟩ := h1
  have z := o1.wow.view o1.sub o1.own e
  cases z
  refine ⟨c, rfl, ?_⟩
  cases c with
  | true =>
    rw [if_pos rfl] at q ⊢
    exact k _ _ _ _ _ _ _ q (o1.flat (.bl true))
  | false =>
    rw [if_neg Bool.false_ne_true] at q ⊢
    exact l' σ H1 F1 A1 s1 _ _ (o1.rel R) q fun w s2 v F2 H2 Av A2 h2 o2 => k _ _ _ _ _ _ _ h2 (o1.t.out o2)
theorem Lift.notV {t : TE} {m : TD} (l : Lift Z t m) : Lift Z (tNotV t) (mNotV m) := by
  intro σ H F A s Q Qd R h k
  refine l σ H F A s _ _ R h fun w s1 v F1 H1 Av A1 h1 o1 => ?_
  obtain ⟨c, e, q⟩ := h1
  have z := o1.wow.view o1.sub o1.own e
  cases z
  exact ⟨c, rfl, k _ _ _ _ _ _ _ q (o1.flat (.bl (!c)))⟩
theorem de_one {op : BoolOp} {a : Expr} {t : TE} {m : TD} {pos : Pos} (h : DE Z X a t m) : DE Z X (.BoolOp op [a] pos) t m := ⟨pe_one h.pe, h.lf⟩
theorem de_and {a b : Expr} {rest : List Expr} {t u : TE} {m n : TD} {pos : Pos} (h : DE Z X a t m) (h' : DE Z X (.BoolOp .And (b :: rest) pos) u n) : DE Z X (.BoolOp .And (a :: b :: rest) pos) (tAndV t u) (mAndV m n) := ⟨pe_and h.pe h'.pe, h.lf.andV h'.lf⟩
theorem de_or {a b : Expr} {rest : List Expr} {t u : TE} {m n : TD} {pos : Pos} (h : DE Z X a t m) (h' : DE Z X (.BoolOp .Or (b :: rest) pos) u n) : DE Z X (.BoolOp .Or (a :: b :: rest) pos) (tOrV t u) (mOrV m n) := ⟨pe_or h.pe h'.pe, h.lf.orV h'.lf⟩
theorem de_not {a : Expr} {t : TE} {m : TD} {pos : Pos} (h : DE Z X a t m) : DE Z X (.UnaryOp .Not a pos) (tNotV t) (mNotV m) := ⟨pe_not h.pe, h.lf.notV⟩
def mIf (c : TTd) (m n : TD) : TD := fun s Q => c s fun b s1 => if b = true then m s1 Q else n s1 Q
theorem Lift.ife {c : TT} {t u : TE} {mc : TTd} {m n : TD} (lc : LiftT Z c mc) (l : Lift Z t m) (l' : Lift Z u n) : Lift Z (tIf c t u) (mIf mc m n) := by
  intro σ H F A s Q Qd R h k
  refine lc σ H F A s _ _ R h fun b s1 F1 H1 A1 h1 o1 => ?_
  cases b with
  | true =>
    rw [if_pos rfl] at h1 ⊢
    exact l σ H1 F1 A1 s1 _ _ (o1.rel R) h1 fun w s2 v F2 H2 Av A2 h2 o2 => k _ _ _ _ _ _ _ h2 (o1.out o2)
  | false =>
    rw [if_neg Bool.false_ne_true] at h1 ⊢
    exact l' σ H1 F1 A1 s1 _ _ (o1.rel R) h1 fun w s2 v F2 H2 Av A2 h2 o2 => k _ _ _ _ _ _ _ h2 (o1.out o2)
theorem de_ife {c a b : Expr} {tc : TT} {t u : TE} {mc : TTd} {m n : TD} {pos : Pos} (hc : DT Z X c tc mc) (ha : DE Z X a t m) (hb : DE Z X b u n) : DE Z X (.IfExp c a b pos) (tIf tc t u) (mIf mc m n) := ⟨pe_ifExp hc.pt ha.pe hb.pe, .ife hc.lf ha.lf hb.lf⟩
end
end DL
namespace DL
open PySem PySem.Spec L2
section
variable {K : PySem.W.Frag} {X : Cx}
theorem OpR.or2 {f : Value → Value → Sem Value} {r r' : R2} (h : OpR X f r) (h' : OpR X f r') : OpR X f (fun x y H Q => r x y H Q ∨ r' x y H Q) := OpR.or h h'
def iop (C : Int → Int → Prop) (g : Int → Int → D) : D → D → M → Prop
  | .int i, .int j, z => C i j ∧ z = .fz (g i j)
  | _, _, _ => False
theorem OpD.int {C : Int → Int → Prop} {g : Int → Int → V} {gd : Int → Int → D} (hz : ∀ i j F, Fz K F (g i j) (gd i j)) : OpD K (rI C g) (iop C gd) := OpD.flat fun F H x y d e z Q sb zx zy h => by
  cases zx with
  | int i =>
    cases zy with
    | int j => exact ⟨_, h.2, _, hz i j, fun q => ⟨i, j, rfl, rfl, h.1, q⟩⟩
    | _ => exact h.elim
  | _ => cases zy <;> exact h.elim
theorem OpD.int0 {g : Int → Int → V} {gd : Int → Int → D} (hz : ∀ i j F, Fz K F (g i j) (gd i j)) : OpD K (rI0 g) (iop (fun _ _ => True) gd) := OpD.flat fun F H x y d e z Q sb zx zy h => by
  cases zx with
  | int i =>
    cases zy with
    | int j => exact ⟨_, h.2, _, hz i j, fun q => ⟨i, j, rfl, rfl, q⟩⟩
    | _ => exact h.elim
  | _ => cases zy <;> exact h.elim
abbrev dLt : D → D → M → Prop := iop (fun _ _ => True) fun i j => .bl (decide (i < j))
abbrev dLe : D → D → M → Prop := iop (fun _ _ => True) fun i j => .bl (decide (i ≤ j))
abbrev dGt : D → D → M → Prop := iop (fun _ _ => True) fun i j => .bl (decide (j < i))
abbrev dGe : D → D → M → Prop := iop (fun _ _ => True) fun i j => .bl (decide (j ≤ i))
theorem od_lt : OpD K (rI0 fun i j => .bl (decide (i < j))) dLt := OpD.int0 fun _ _ _ => .bl _
theorem od_le : OpD K (rI0 fun i j => .bl (decide (i ≤ j))) dLe := OpD.int0 fun _ _ _ => .bl _
theorem od_gt : OpD K (rI0 fun i j => .bl (decide (j < i))) dGt := OpD.int0 fun _ _ _ => .bl _
theorem od_ge : OpD K (rI0 fun i j => .bl (decide (j ≤ i))) dGe := OpD.int0 fun _ _ _ => .bl _
abbrev dSub : D → D → M → Prop := iop (fun _ _ => True) fun i j => .int (i - j)
theorem od_sub : OpD K (rI0 fun i j => .int (i - j)) dSub := OpD.int0 fun _ _ _ => .int _
abbrev dMod : D → D → M → Prop := iop (fun _ j => j ≠ 0) fun i j => .int (i.fmod j)
theorem od_mod : OpD K (rI (fun _ j => j ≠ 0) fun i j => .int (i.fmod j)) dMod := OpD.int fun _ _ _ => .int _
abbrev dShl : D → D → M → Prop := iop CPow fun i j => .int (i * 2 ^ j.toNat)
theorem od_shl : OpD K (rI CPow fun i j => .int (i * 2 ^ j.toNat)) dShl := OpD.int fun _ _ _ => .int _
abbrev dShr : D → D → M → Prop := iop (fun _ j => 0 ≤ j) fun i j => .int (i / 2 ^ j.toNat)
theorem od_shr : OpD K (rI (fun _ j => 0 ≤ j) fun i j => .int (i / 2 ^ j.toNat)) dShr := OpD.int fun _ _ _ => .int _
abbrev dAnd : D → D → M → Prop := iop (fun _ _ => True) fun i j => .int (Builtin.bitAnd i j)
theorem od_and : OpD K (rI0 fun i j => .int (Builtin.bitAnd i j)) dAnd := OpD.int0 fun _ _ _ => .int _
def CFd (i j : Int) : Prop := CDivN i j ∨ CDivW i j
abbrev dFdiv : D → D → M → Prop := iop CFd fun i j => .int (i.fdiv j)
theorem op_fdivA : OpR X (binaryOp .FloorDiv) (rI CFd fun i j => .int (i.fdiv j)) := fun pins s σ H x y v u Q I rx ry h => by
  obtain ⟨i, j, rfl, rfl, hc, q⟩ := h
  rcases hc with hc | hc
  · exact op_fdivN pins s σ H _ _ v u Q I rx ry ⟨i, j, rfl, rfl, hc, q⟩
  · refine op_fdivW pins s σ H _ _ v u Q I rx ry ⟨i, j, rfl, rfl, hc, ?_⟩
    have e : i / j = i.fdiv j := (Int.fdiv_eq_ediv_of_nonneg i (Int.le_of_lt hc.1)).symm
    show Q (V.int (i / j)) H
    rw [e]; exact q
theorem od_fdiv : OpD K (rI CFd fun i j => .int (i.fdiv j)) dFdiv := OpD.int fun _ _ _ => .int _
theorem new_lst {F H : Hp} {p : Addr} {xs : List V} {ds : List D} (sb : Sub F H) (hp : H p = none) (z : Fzs K F xs ds) : Frm F H [] F (upd H p (.lst xs)) [p] ∧ Sub F (upd H p (.lst xs)) ∧ Ow K F (upd H p (.lst xs)) (.ref p) (.ml ds) [p] := by
  have nf : F p = none := sb.fresh hp
  have ne : ∀ a o, H a = some o → a ≠ p := fun a o h q => by subst q; rw [hp] at h; cases h
  refine ⟨.ext (fun _ _ h => h) (fun a o h => by rw [upd_ne (ne a o h)]; exact h) (fun a h => ?_) (fun a o h => .inl h), sb.upd nf (.inl hp), .ml nf upd_same z⟩
  · rcases List.mem_singleton.mp h with rfl; exact .inr hp
theorem new_tup {F H : Hp} {p : Addr} {xs : List V} {ds : List D} (sb : Sub F H) (hp : H p = none) (z : Fzs K F xs ds) : Frm F H [] (upd F p (.tup xs)) (upd H p (.tup xs)) [] ∧ Sub (upd F p (.tup xs)) (upd H p (.tup xs)) ∧ Ow K (upd F p (.tup xs)) (upd H p (.tup xs)) (.ref p) (.fz (.tup ds)) [] := by
  have ne : ∀ a o, H a = some o → a ≠ p := fun a o h q => by subst q; rw [hp] at h; cases h
  have nf : ∀ a o, F a = some o → a ≠ p := fun a o h q => by
    subst q
    rw [sb.fresh hp] at h; cases h
  have fs : ∀ a o, F a = some o → upd F p (.tup xs) a = some o := fun a o h => by rw [upd_ne (nf a o h)]; exact h
  refine ⟨.ext fs (fun a o h => by rw [upd_ne (ne a o h)]; exact h) (fun a h => nomatch h) (fun a o h => ?_) (fun a ps h => by
    by_cases q : a = p
    · subst q; rw [upd_same] at h; cases h
    · rw [upd_ne q] at h; exact h), fun a o h => ?_, .fz (.tup upd_same (z.mono (Sub.of fs)))⟩
  · by_cases q : a = p
    · subst q; exact .inr (.inr hp)
    · rw [upd_ne q] at h; exact .inl h
  · by_cases q : a = p
    · subst q; rw [upd_same] at h ⊢; exact .inl h
    · rw [upd_ne q] at h
      exact sb.upd (sb.fresh hp) (.inl hp) a o h
theorem Ow.lstV {F H : Hp} {x : V} {m : M} {B : List Addr} {ds : List D} (sb : Sub F H) (w : Ow K F H x m B) (e : m.frz = .lst ds) : ∃ a xs, x = .ref a ∧ H a = some (.lst xs) ∧ Fzs K F xs ds := by
  cases w with
  | fz z =>
    cases e
    cases z with
    | lst h r => exact ⟨_, _, rfl, sb.lst h, r⟩
  | ml n h r => cases e; exact ⟨_, _, rfl, h, r⟩
  | md n h r => cases e
  | mt n h r => cases e
  | mo n h r => cases e
theorem Ow.tupV {F H : Hp} {x : V} {m : M} {B : List Addr} {ds : List D} (sb : Sub F H) (w : Ow K F H x m B) (e : m.frz = .tup ds) : ∃ a xs, x = .ref a ∧ H a = some (.tup xs) ∧ Fzs K F xs ds ∧ Fz K F x (.tup ds) := by
  cases w with
  | fz z =>
    cases e
    cases id z with
    | tup h r => exact ⟨_, _, rfl, sb.tup h, r, z⟩
  | ml n h r => cases e
  | md n h r => cases e
  | mt n h r => cases e
  | mo n h r => cases e
theorem Ow.flatV {F H : Hp} {x : V} {m : M} {B : List Addr} (w : Ow K F H x m B) : (∀ i, m.frz = .int i → x = .int i) ∧ (∀ b, m.frz = .bl b → x = .bl b) ∧ (∀ b, m.frz = .str b → x = .str b) ∧ (m.frz = .non → x = .non) := by
  cases w with
  | fz z => cases z <;> refine ⟨fun _ e => ?_, fun _ e => ?_, fun _ e => ?_, fun e => ?_⟩ <;> cases e <;> rfl
  | ml n h r => refine ⟨fun _ e => ?_, fun _ e => ?_, fun _ e => ?_, fun e => ?_⟩ <;> cases e
  | md n h r => refine ⟨fun _ e => ?_, fun _ e => ?_, fun _ e => ?_, fun e => ?_⟩ <;> cases e
  | mt n h r => refine ⟨fun _ e => ?_, fun _ e => ?_, fun _ e => ?_, fun e => ?_⟩ <;> cases e
  | mo n h r => refine ⟨fun _ e => ?_, fun _ e => ?_, fun _ e => ?_, fun e => ?_⟩ <;> cases e
theorem Ow.strV {F H : Hp} {x : V} {m : M} {B : List Addr} {z : Str} (w : Ow K F H x m B) (e : m.frz = .str z) : x = .str z := w.flatV.2.2.1 z e
theorem Ow.intV {F H : Hp} {x : V} {m : M} {B : List Addr} {i : Int} (w : Ow K F H x m B) (e : m.frz = .int i) : x = .int i := w.flatV.1 i e
def rAdd (K : PySem.W.Frag) : R2 := fun x y H Q => ((rI0 (fun i j => .int (i + j)) x y H Q ∨ (∃ i j, x = .str i ∧ y = .str j ∧ i.length + j.length ≤ sizeLine ∧ Q (.str (i ++ j)) H)) ∨ rCatA K x y H Q) ∨ rCat x y H Q
theorem op_addA (hK : X.K = K) : OpR X (binaryOp .Add) (rAdd K) := by
  subst hK
  exact OpR.or2 (OpR.or2 (OpR.or2 op_add op_add_str) op_catA) op_cat
def dAdd : D → D → M → Prop
  | .int i, .int j, z => z = .fz (.int (i + j))
  | .str a, .str b, z => a.length + b.length ≤ sizeLine ∧ z = .fz (.str (a ++ b))
  | .tup xs, .tup ys, z => xs.length + ys.length ≤ sizeLine ∧ z = .fz (.tup (xs ++ ys))
  | .lst xs, .lst ys, z => xs.length + ys.length ≤ sizeLine ∧ z = .ml (xs ++ ys)
  | _, _, _ => False
theorem od_add : OpD K (rAdd K) dAdd := by
  intro F H x y m1 m2 B1 B2 z Q sb w1 w2 hz k
  generalize e1 : m1.frz = d1 at hz
  generalize e2 : m2.frz = d2 at hz
  cases d1 with
  | int i =>
    cases d2 with
    | int j =>
      cases hz
      exact .inl (.inl (.inl ⟨i, j, w1.intV e1, w2.intV e2, k _ F H [] Frm.refl sb (.fz (.int _)) List.nodup_nil⟩))
    | _ => exact hz.elim
  | str i =>
    cases d2 with
    | str j =>
      obtain ⟨hl, rfl⟩ := hz
      exact .inl (.inl (.inr ⟨i, j, w1.strV e1, w2.strV e2, hl, k _ F H [] Frm.refl sb (.fz (.str _)) List.nodup_nil⟩))
    | _ => exact hz.elim
  | tup ds =>
    cases d2 with
    | tup es =>
      obtain ⟨hl, rfl⟩ := hz
      obtain ⟨a, xs, rfl, h1, z1, f1⟩ := w1.tupV sb e1
      obtain ⟨b, ys, rfl, h2, z2, f2⟩ := w2.tupV sb e2
      have l1 := z1.length
      have l2 := z2.length
      refine .inl (.inr ⟨a, b, xs, ys, rfl, rfl, SqT.of h1, SqT.of h2, by omega, fun q => ?_, fun _ q => ?_, fun _ _ p hp => ?_⟩)
      · have : ds = [] := by
          subst q; cases z1; rfl
        subst this
        exact k _ F H [] Frm.refl sb (.fz f2) List.nodup_nil
      · have : es = [] := by
          subst q; cases z2; rfl
        subst this
        exact k _ F H [] Frm.refl sb (.fz (by simpa using f1)) List.nodup_nil
      · obtain ⟨g, s2, o⟩ := new_tup sb hp (z1.append z2)
        exact k _ _ _ _ g s2 o List.nodup_nil
    | _ => exact hz.elim
  | lst ds =>
    cases d2 with
    | lst es =>
      obtain ⟨hl, rfl⟩ := hz
      obtain ⟨a, xs, rfl, h1, z1⟩ := w1.lstV sb e1
      obtain ⟨b, ys, rfl, h2, z2⟩ := w2.lstV sb e2
      have l1 := z1.length
      have l2 := z2.length
      refine .inr ⟨a, b, xs, ys, rfl, rfl, h1, h2, by omega, fun p hp => ?_⟩
      obtain ⟨g, s2, o⟩ := new_lst sb hp (z1.append z2)
      exact k _ _ _ _ g s2 o (by simp)
    | _ => exact hz.elim
  | _ => cases d2 <;> exact hz.elim
theorem Fzs.rep {H : Hp} {xs : List V} {ds : List D} (z : Fzs K H xs ds) : ∀ k : Nat, Fzs K H (List.replicate k xs).flatten (List.replicate k ds).flatten
  | 0 => .nil
  | k + 1 => by
    rw [List.replicate_succ, List.replicate_succ, List.flatten_cons, List.flatten_cons]
    exact z.append (z.rep k)
def rMul (K : PySem.W.Frag) : R2 := fun x y H Q => (rI CMul (fun i j => .int (i * j)) x y H Q ∨ rRepT K x y H Q) ∨ rRep x y H Q
theorem op_mulA (hK : X.K = K) : OpR X (binaryOp .Mult) (rMul K) := by
  subst hK
  exact OpR.or2 (OpR.or2 op_mul op_repT) op_rep
def dMul : D → D → M → Prop
  | .int i, .int j, z => CMul i j ∧ z = .fz (.int (i * j))
  | .tup ds, .int k, z => ds ≠ [] ∧ 2 ≤ k ∧ k ≤ 1000 ∧ ds.length ≤ 1000 ∧ z = .fz (.tup (List.replicate k.toNat ds).flatten)
  | .lst ds, .int k, z => -(2 ^ 63) ≤ k ∧ k < 2 ^ 63 ∧ ds.length * k.toNat ≤ sizeLine ∧ z = .ml (List.replicate k.toNat ds).flatten
  | _, _, _ => False
theorem od_mul : OpD K (rMul K) dMul := by
  intro F H x y m1 m2 B1 B2 z Q sb w1 w2 hz k
  generalize e1 : m1.frz = d1 at hz
  generalize e2 : m2.frz = d2 at hz
  cases d1 with
  | int i =>
    cases d2 with
    | int j =>
      obtain ⟨hc, rfl⟩ := hz
      exact .inl (.inl ⟨i, j, w1.intV e1, w2.intV e2, hc, k _ F H [] Frm.refl sb (.fz (.int _)) List.nodup_nil⟩)
    | _ => exact hz.elim
  | tup ds =>
    cases d2 with
    | int j =>
      obtain ⟨hne, h1, h2, hl, rfl⟩ := hz
      obtain ⟨a, xs, rfl, hx, z1, f1⟩ := w1.tupV sb e1
      have l1 := z1.length
      refine .inl (.inr ⟨a, j, xs, rfl, w2.intV e2, SqT.of hx, fun q => hne (by subst q; cases z1; rfl), h1, h2, by omega, fun p hp => ?_⟩)
      obtain ⟨g, s2, o⟩ := new_tup sb hp (z1.rep j.toNat)
      exact k _ _ _ _ g s2 o List.nodup_nil
    | _ => exact hz.elim
  | lst ds =>
    cases d2 with
    | int j =>
      obtain ⟨h1, h2, hl, rfl⟩ := hz
      obtain ⟨a, xs, rfl, hx, z1⟩ := w1.lstV sb e1
      have l1 := z1.length
      refine .inr ⟨a, j, xs, rfl, w2.intV e2, hx, h1, h2, by rw [l1]; exact hl, fun p hp => ?_⟩
      obtain ⟨g, s2, o⟩ := new_lst sb hp (z1.rep j.toNat)
      exact k _ _ _ _ g s2 o (by simp)
    | _ => exact hz.elim
  | _ => cases d2 <;> exact hz.elim
def D.eqS : D → D → Option Bool
  | .non, .non => some true | .non, .int _ => some false | .int _, .non => some false | .non, .bl _ => some false | .bl _, .non => some false | .non, .str _ => some false | .str _, .non => some false
  | .int i, .int j => some (decide (i = j)) | .bl i, .bl j => some (decide (i = j)) | .str i, .str j => some (decide (i = j))
  | .int _, .str _ => some false | .str _, .int _ => some false | .bl _, .str _ => some false | .str _, .bl _ => some false
  | _, _ => none
mutual
def D.py : D → PyData
  | .non => .none
  | .bl b => .bool b
  | .int i => .int i
  | .str x => .str x
  | .tup ds => .tuple (D.pys ds)
  | .wtu ds => .tuple (D.pys ds)
  | .lst ds => .list (D.pys ds)
  | _ => .dict []
def D.pys : List D → List PyData
  | [] => []
  | d :: ds => d.py :: D.pys ds
end
mutual
theorem Fz.dp {H : Hp} : ∀ {v : V} {d : D}, Fz K H v d → d.py.canLay0 = true → Dp K H v d.py
  | _, _, .non, _ => .non
  | _, _, .bl b, _ => .bl b
  | _, _, .int i, _ => .int i
  | _, _, .str x, _ => .str x
  | _, _, .tup h r, c => .tup (SqT.of h) (Fzs.dp r (by simpa [D.py, PyData.canLay0] using c))
  | _, _, .wtu h r, c => .tup (.inr h) (Fzs.dp r (by simpa [D.py, PyData.canLay0] using c))
  | _, _, .lst h r, c => .lst (SqL.of h) (Fzs.dp r (by simpa [D.py, PyData.canLay0] using c))
  | _, _, .dic _ _, c => by simp [D.py, PyData.canLay0] at c
  | _, _, .scr _, c => by simp [D.py, PyData.canLay0] at c
  | _, _, .dit _ _, c => by simp [D.py, PyData.canLay0] at c
  | _, _, .dil _ _, c => by simp [D.py, PyData.canLay0] at c
  | _, _, .obj _ _, c => by simp [D.py, PyData.canLay0] at c
  | _, _, .ref _, c => by simp [D.py, PyData.canLay0] at c
  | _, _, .ty _, c => by simp [D.py, PyData.canLay0] at c
  | _, _, .exc _ _, c => by simp [D.py, PyData.canLay0] at c
theorem Fzs.dp {H : Hp} : ∀ {v : List V} {d : List D}, Fzs K H v d → PyData.canLayAll0 (D.pys d) = true → DpAll K H v (D.pys d)
  | _, _, .nil, _ => .nil
  | _, _, .cons h r, c => by
    simp only [D.pys, PyData.canLayAll0, Bool.and_eq_true] at c
    exact .cons (Fz.dp h c.1) (Fzs.dp r c.2)
end
def dEqB (x y : D) (b : Bool) : Prop := D.eqS x y = some b ∨ (SeqAt.shaped x.py = true ∧ SeqAt.shaped y.py = true ∧ b = PyData.eqv x.py y.py)
def dEq : D → D → M → Prop := fun x y z => ∃ b, dEqB x y b ∧ z = .fz (.bl b)
def dNe : D → D → M → Prop := fun x y z => ∃ b, dEqB x y b ∧ z = .fz (.bl (!b))
theorem eqS_ok {H : Hp} {x y : V} {d e : D} {b : Bool} (zx : Fz K H x d) (zy : Fz K H y e) (h : D.eqS d e = some b) : scal x y = true ∧ b = decide (x = y) := by
  cases zx <;> cases zy <;> (simp only [D.eqS] at h) <;> first
    | (cases h; refine ⟨rfl, ?_⟩; simp)
    | (cases h)
def rEqA (K : PySem.W.Frag) : R2 := fun x y H Q => rEq x y H Q ∨ rEqD K x y H Q
def rNeA (K : PySem.W.Frag) : R2 := fun x y H Q => rNe x y H Q ∨ rNeD K x y H Q
theorem op_eqA (hK : X.K = K) (hu : X.A.units + 64 < cLine) : OpR X (compareOp .Eq) (rEqA K) := by
  subst hK
  exact OpR.or2 op_eq (op_eqD hu)
theorem op_neA (hK : X.K = K) (hu : X.A.units + 64 < cLine) : OpR X (compareOp .NotEq) (rNeA K) := by
  subst hK
  exact OpR.or2 op_ne (op_neD hu)
theorem od_eq : OpD K (rEqA K) dEq := OpD.flat fun F H x y d e z Q sb zx zy h => by
  obtain ⟨b, h, rfl⟩ := h
  refine ⟨_, rfl, .bl b, fun F => .bl b, fun q => ?_⟩
  rcases h with h | ⟨h1, h2, rfl⟩
  · obtain ⟨hs, rfl⟩ := eqS_ok zx zy h
    exact .inl ⟨hs, q⟩
  · exact .inr ⟨_, _, zx.dp (SeqAt.canLay_of_shaped h1), zy.dp (SeqAt.canLay_of_shaped h2), h1, h2, q⟩
theorem od_ne : OpD K (rNeA K) dNe := OpD.flat fun F H x y d e z Q sb zx zy h => by
  obtain ⟨b, h, rfl⟩ := h
  refine ⟨_, rfl, .bl (!b), fun F => .bl _, fun q => ?_⟩
  rcases h with h | ⟨h1, h2, rfl⟩
  · obtain ⟨hs, rfl⟩ := eqS_ok zx zy h
    exact .inl ⟨hs, q⟩
  · exact .inr ⟨_, _, zx.dp (SeqAt.canLay_of_shaped h1), zy.dp (SeqAt.canLay_of_shaped h2), h1, h2, q⟩
def dIs : D → D → M → Prop
  | d, .non, z => z = .fz (.bl (match d with | .non => true | _ => false))
  | _, _, _ => False
def dIsNot : D → D → M → Prop
  | d, .non, z => z = .fz (.bl (match d with | .non => false | _ => true))
  | _, _, _ => False
theorem od_is : OpD K (fun x y H Q => y = .non ∧ Q (.bl (decide (x = .non))) H) dIs := OpD.flat fun F H x y d e z Q sb zx zy h => by
  cases zy with
  | non =>
    refine ⟨_, h, .bl _, fun F => .bl _, fun q => ⟨rfl, ?_⟩⟩
    cases zx <;> exact q
  | _ => exact h.elim
theorem od_isnot : OpD K (fun x y H Q => y = .non ∧ Q (.bl (!decide (x = .non))) H) dIsNot := OpD.flat fun F H x y d e z Q sb zx zy h => by
  cases zy with
  | non =>
    refine ⟨_, h, .bl _, fun F => .bl _, fun q => ⟨rfl, ?_⟩⟩
    cases zx <;> exact q
  | _ => exact h.elim
end
end DL
namespace DL
open PySem PySem.Spec L2
structure DEnds where
  nx : DSt → Prop
  rt : M → DSt → Prop
  bk : DSt → Prop := fun _ => False
  ct : DSt → Prop := fun _ => False
abbrev TSd := DEnds → DSt → Prop
structure EImp (K : PySem.W.Frag) (Dd : DEnds) (D : Ends) (F H : Hp) (A : List Addr) : Prop where
  nx : ∀ (σ' : L2.St) (s' : DSt) (F' H' : Hp) (A' : List Addr), Frm F H A F' H' A' → Sub F' H' → OwS K F' H' σ' s' A' → A'.Nodup → Dd.nx s' → D.nx σ' H'
  bk : ∀ (σ' : L2.St) (s' : DSt) (F' H' : Hp) (A' : List Addr), Frm F H A F' H' A' → Sub F' H' → OwS K F' H' σ' s' A' → A'.Nodup → Dd.bk s' → D.bk σ' H'
  ct : ∀ (σ' : L2.St) (s' : DSt) (F' H' : Hp) (A' : List Addr), Frm F H A F' H' A' → Sub F' H' → OwS K F' H' σ' s' A' → A'.Nodup → Dd.ct s' → D.ct σ' H'
  rt : ∀ (v : V) (m : M) (σ' : L2.St) (s' : DSt) (F' H' : Hp) (Av A' : List Addr), Frm F H A F' H' (Av ++ A') → Sub F' H' → Ow K F' H' v m Av → OwS K F' H' σ' s' A' → (Av ++ A').Nodup → Dd.rt m s' → D.rt v H'
theorem EImp.step {K : PySem.W.Frag} {Dd : DEnds} {D : Ends} {F H F' H' : Hp} {A A' : List Addr} (e : EImp K Dd D F H A) (f : Frm F H A F' H' A') : EImp K Dd D F' H' A' :=
  ⟨fun σ s F2 H2 A2 g => e.nx σ s F2 H2 A2 (f.trans0 g), fun σ s F2 H2 A2 g => e.bk σ s F2 H2 A2 (f.trans0 g), fun σ s F2 H2 A2 g => e.ct σ s F2 H2 A2 (f.trans0 g),
    fun v m σ s F2 H2 Av A2 g => e.rt v m σ s F2 H2 Av A2 (f.trans0 g)⟩
def LiftS (Z : ZX) (t : TS) (m : TSd) : Prop := ∀ (σ : L2.St) (H F : Hp) (A : List Addr) (s : DSt) (D : Ends) (Dd : DEnds), Rel Z F H σ s A → m Dd s → EImp Z.K Dd D F H A → t D σ H
structure DS (Z : ZX) (X : Cx) (st : Stmt) (t : TS) (m : TSd) : Prop where
  ps : PS X st t
  lf : LiftS Z t m
structure DSs (Z : ZX) (X : Cx) (st : List Stmt) (t : TS) (m : TSd) : Prop where
  ps : PSs X st t
  lf : LiftS Z t m
section
variable {Z : ZX} {X : Cx} {K : PySem.W.Frag} {F H F1 H1 F2 H2 : Hp} {A A1 A2 Av B : List Addr} {σ : L2.St} {s s1 s2 : DSt} {v : V} {w : W} {pos : Pos}
def mNext : TSd := fun D s => D.nx s
def mSeq (m n : TSd) : TSd := fun D s => m { D with nx := n D } s
theorem LiftS.next : LiftS Z tNext mNext := fun σ H F A s D Dd R h e => e.nx σ s F H A Frm.refl R.sub R.own R.nd h
theorem LiftS.seq {t u : TS} {m n : TSd} (l : LiftS Z t m) (l' : LiftS Z u n) : LiftS Z (tSeq t u) (mSeq m n) := by
  intro σ H F A s D Dd R h e
  refine l σ H F A s _ _ R h ⟨fun σ' s' F' H' A' f sb ow nd q => ?_, e.bk, e.ct, e.rt⟩
  exact l' σ' H' F' A' s' D Dd ⟨sb, ow, nd, R.ex.step f⟩ q (e.step f)
theorem dss_nil : DSs Z X [] tNext mNext := ⟨pss_nil, .next⟩
theorem dss_cons {st : Stmt} {rest : List Stmt} {t u : TS} {m n : TSd} (h : DS Z X st t m) (h' : DSs Z X rest u n) : DSs Z X (st :: rest) (tSeq t u) (mSeq m n) := ⟨pss_cons h.ps h'.ps, h.lf.seq h'.lf⟩
theorem dss_one {st : Stmt} {t : TS} {m : TSd} (h : DS Z X st t m) : DSs Z X [st] t m := ⟨pss_one h.ps, h.lf⟩
def mBreak : TSd := fun D s => D.bk s
def mCont : TSd := fun D s => D.ct s
theorem ds_continue : DS Z X (.Continue pos) tCont mCont := ⟨ps_continue, fun σ H F A s D Dd R h e => e.ct σ s F H A Frm.refl R.sub R.own R.nd h⟩
def mDrop (m : TD) : TSd := fun D s => m s fun _ s' => D.nx s'
theorem LiftS.drop {t : TE} {m : TD} (l : Lift Z t m) : LiftS Z (tDrop t) (mDrop m) := by
  intro σ H F A s D Dd R h e
  refine l σ H F A s _ _ R h fun w s1 v F1 H1 Av A1 h1 o1 => ?_
  have o := o1.t
  exact e.nx σ s1 F1 H1 A1 o.fr o.sub o.own o.nd h1
theorem ds_expr {ex : Expr} {t : TE} {m : TD} (h : DE Z X ex t m) (hs : swapsWith ex none pos.line X.env = pure false := by rfl) : DS Z X (.Expr ex pos) (tDrop t) (mDrop m) := ⟨ps_expr h.pe hs, .drop h.lf⟩
noncomputable def rv (w : W) (s : DSt) (Q : M → DSt → Prop) : Prop :=
  match w with
  | .val m => Q m s
  | .slot i => match s[i]? with
    | some (.v m) => Q m (s.set i .un)
    | _ => False
  | .fld i f x => tv (.fld i f x) s Q
theorem OwS.take : ∀ {σ : L2.St} {s : DSt} {A : List Addr} {i : Nat} {m : M}, OwS K F H σ s A → s[i]? = some (.v m) → ∃ x B C E, σ[i]? = some (some x) ∧ Ow K F H x m B ∧ A = C ++ B ++ E ∧ OwS K F H σ (s.set i .un) (C ++ E)
  | _, _, _, i, _, .nil, h => by simp at h
  | _, _, _, 0, _, .un r, h => by cases h
  | _, _, _, 0, _, .v (A1 := A1) (A2 := A2) w r, h => by
    cases h
    exact ⟨_, A1, [], A2, rfl, w, rfl, .un r⟩
  | _, _, _, 0, _, .p w r, h => by cases h
  | _, _, _, i + 1, _, .un r, h => by
    obtain ⟨x, B, C, E, e, o, hA, k⟩ := OwS.take (i := i) r (by simpa using h)
    exact ⟨x, B, C, E, by simpa using e, o, hA, .un k⟩
  | _, _, _, i + 1, _, .v (A1 := A1) w r, h => by
    obtain ⟨x, B, C, E, e, o, hA, k⟩ := OwS.take (i := i) r (by simpa using h)
    exact ⟨x, B, A1 ++ C, E, by simpa using e, o, by simp [hA], by simpa using OwS.v w k⟩
  | _, _, _, i + 1, _, .p (A1 := A1) w r, h => by
    obtain ⟨x, B, C, E, e, o, hA, k⟩ := OwS.take (i := i) r (by simpa using h)
    exact ⟨x, B, A1 ++ C, E, by simpa using e, o, by simp [hA], by simpa using OwS.p w k⟩
def mRet (m : TD) : TSd := fun D s => m s fun w s' => rv w s' D.rt
theorem LiftS.ret {t : TE} {m : TD} (l : Lift Z t m) : LiftS Z (tRet t) (mRet m) := by
  intro σ H F A s D Dd R h e
  refine l σ H F A s _ _ R h fun w s1 v F1 H1 Av A1 h1 o1 => ?_
  cases w with
  | val m =>
    cases o1.wow with
    | val ow => exact e.rt v m σ s1 F1 H1 Av A1 o1.fr o1.sub ow o1.own o1.nd h1
  | fld i f x =>
    obtain ⟨y, s2, F2, B2, A2, h2, f2, sb2, w2, ow2, nd2, hB, hA⟩ := tv_ok o1.wow o1.sub o1.own o1.nd (show tv (.fld i f x) s1 Dd.rt from h1)
    exact e.rt v y σ s2 F2 H1 B2 A2 (o1.fr.trans0 f2) sb2 w2 ow2 nd2 h2
  | slot i =>
    cases o1.wow with
    | slot ee =>
      unfold rv at h1
      cases es : s1[i]? with
      | none => simp [es] at h1
      | some sl =>
        cases sl with
        | un => simp [es] at h1
        | p x m => simp [es] at h1
        | v m =>
          simp [es] at h1
          obtain ⟨x, B1, C, E, e', o2, hA, k⟩ := o1.own.take es
          rw [ee] at e'
          cases e'
          have ndA : (C ++ B1 ++ E).Nodup := by rw [← hA]; simpa using o1.nd
          have hs : ∀ a ∈ B1 ++ (C ++ E), a ∈ A1 := fun a ha => by
            rw [hA, mem3]
            simp at ha
            rcases ha with q | q | q <;> simp [q]
          refine e.rt v m σ _ F1 H1 B1 (C ++ E) (o1.fr.weak fun a ha => ?_) o1.sub o2 k ?_ h1
          · simpa using hs a ha
          · refine nd_mk (nd_r (nd_l ndA)) (nd_mk (nd_l (nd_l ndA)) (nd_r ndA) fun a ha hb => nd_x ndA a (List.mem_append_left _ ha) hb) fun a ha hb => ?_
            rcases List.mem_append.mp hb with q | q
            · exact nd_x (nd_l ndA) a q ha
            · exact nd_x ndA a (List.mem_append_right _ ha) q
theorem ds_ret {ex : Expr} {t : TE} {m : TD} (h : DE Z X ex t m) : DS Z X (.Return (some ex) pos) (tRet t) (mRet m) := ⟨ps_ret h.pe, .ret h.lf⟩
def mRetN : TSd := fun D s => D.rt (.fz .non) s
def mIfS (c : TTd) (m n : TSd) : TSd := fun D s => c s fun b s1 => if b = true then m D s1 else n D s1
theorem LiftS.ife {c : TT} {t u : TS} {mc : TTd} {m n : TSd} (lc : LiftT Z c mc) (l : LiftS Z t m) (l' : LiftS Z u n) : LiftS Z (tIfS c t u) (mIfS mc m n) := by
  intro σ H F A s D Dd R h e
  refine lc σ H F A s _ _ R h fun b s1 F1 H1 A1 h1 o1 => ?_
  cases b with
  | true =>
    rw [if_pos rfl] at h1 ⊢
    exact l σ H1 F1 A1 s1 D Dd (o1.rel R) h1 (e.step o1.fr)
  | false =>
    rw [if_neg Bool.false_ne_true] at h1 ⊢
    exact l' σ H1 F1 A1 s1 D Dd (o1.rel R) h1 (e.step o1.fr)
theorem ds_if {c : Expr} {a b : List Stmt} {tc : TT} {t u : TS} {mc : TTd} {m n : TSd} (hc : DT Z X c tc mc) (ha : DSs Z X a t m) (hb : DSs Z X b u n) : DS Z X (.If c a b pos) (tIfS tc t u) (mIfS mc m n) := ⟨ps_if hc.pt ha.ps hb.ps, .ife hc.lf ha.lf hb.lf⟩
abbrev TGd := M → DSt → (DSt → Prop) → Prop
def LiftG (Z : ZX) (t : TG) (m : TGd) : Prop := ∀ (σ : L2.St) (H F : Hp) (B A : List Addr) (s : DSt) (x : V) (y : M) (Q : L2.St → Hp → Prop) (Qd : DSt → Prop), Sub F H → Ow Z.K F H x y B → OwS Z.K F H σ s A → (B ++ A).Nodup → m y s Qd →
  (∀ σ' s' F' H' A', Qd s' → Frm F H (B ++ A) F' H' A' → Sub F' H' → OwS Z.K F' H' σ' s' A' → A'.Nodup → Q σ' H') → t x σ H Q
structure DG (Z : ZX) (X : Cx) (tg : Expr) (t : TG) (m : TGd) : Prop where
  pg : PG X tg t
  lf : LiftG Z t m
def gNm (i : Nat) : TGd := fun y s Q => match s[i]? with
  | some .un => Q (s.set i (.v y))
  | some (.v _) => Q (s.set i (.v y))
  | _ => False
theorem LiftG.name {i : Nat} : LiftG Z (gName i) (gNm i) := by
  intro σ H F B A s x y Q Qd sb w ow nd h k
  unfold gNm at h
  cases es : s[i]? with
  | none => simp [es] at h
  | some sl =>
    have hp : sl.pinned = false ∧ Qd (s.set i (.v y)) := by
      cases sl with
      | un => simp [es] at h; exact ⟨rfl, h⟩
      | p x m => simp [es] at h
      | v m => simp [es] at h; exact ⟨rfl, h⟩
    obtain ⟨A', k1, k2, k3⟩ := ow.store es hp.1 w
    exact k _ _ F H A' hp.2 (.ext (fun _ _ h => h) (fun _ _ h => h) (fun a ha => .inl (List.mem_append.mpr (k2 a ha))) (fun _ _ h => .inl h)) sb k1 (k3 nd)
theorem dg_name {i : Nat} {x : Str} (hN : X.N.Nodup) (hi : X.N[i]? = some x) (hx : Loc X.env.scope x) (hf : X.fn x = true ∨ X.env.scope.names.lookup x = some .local := by first | exact .inl rfl | exact .inr rfl | assumption) : DG Z X (.Name x pos) (gName i) (gNm i) := ⟨pg_name hN hi hx hf, .name⟩
def mAsg (m : TD) (g : TGd) : TSd := fun D s => m s fun w s' => tv w s' fun y s2 => g y s2 D.nx
theorem LiftS.asg {t : TE} {g : TG} {m : TD} {gd : TGd} (l : Lift Z t m) (lg : LiftG Z g gd) : LiftS Z (tAsg t g) (mAsg m gd) := by
  intro σ H F A s D Dd R h e
  refine l σ H F A s _ _ R h fun w s1 v F1 H1 Av A1 h1 o1 => ?_
  obtain ⟨y, s2, F2, B2, A2, h2, f2, sb2, w2, ow2, nd2, hB, hA⟩ := tv_ok o1.wow o1.sub o1.own o1.nd h1
  have f12 := o1.fr.trans0 f2
  refine lg σ H1 F2 B2 A2 s2 v y _ _ sb2 w2 ow2 nd2 h2 fun σ' s' F' H' A' q f sb ow nd => ?_
  exact e.nx σ' s' F' H' A' (f12.trans0 f) sb ow nd q
theorem ds_set {i : Nat} {x : Str} {ex : Expr} {t : TE} {m : TD} {pos' : Pos} (hN : X.N.Nodup) (hi : X.N[i]? = some x) (hx : Loc X.env.scope x) (he : DE Z X ex t m) (hs : swapsWith ex (some (.Name x pos')) pos.line X.env = pure false := by rfl) (hf : X.fn x = true ∨ X.env.scope.names.lookup x = some .local := by first | exact .inl rfl | exact .inr rfl | assumption) : DS Z X (.Assign [.Name x pos'] ex pos) (tAsg t (gName i)) (mAsg m (gNm i)) :=
  ⟨ps_set hN hi hx he.pe hs hf, .asg he.lf .name⟩
abbrev TGds := List D → DSt → (DSt → Prop) → Prop
def LiftGs (Z : ZX) (t : TGs) (m : TGds) : Prop := ∀ (σ : L2.St) (H F : Hp) (A : List Addr) (s : DSt) (xs : List V) (ys : List D) (Q : L2.St → Hp → Prop) (Qd : DSt → Prop), Sub F H → Fzs Z.K F xs ys → OwS Z.K F H σ s A → A.Nodup → m ys s Qd →
  (∀ σ' s' F' H' A', Qd s' → Frm F H A F' H' A' → Sub F' H' → OwS Z.K F' H' σ' s' A' → A'.Nodup → Q σ' H') → t xs σ H Q
structure DGs (Z : ZX) (X : Cx) (tg : List Expr) (t : TGs) (m : TGds) : Prop where
  pg : PGs X tg t
  lf : LiftGs Z t m
def gNilD : TGds := fun ys s Q => ys = [] ∧ Q s
def gConsD (g : TGd) (h : TGds) : TGds := fun ys s Q => ∃ y r, ys = y :: r ∧ g (.fz y) s fun s' => h r s' Q
theorem dgs_nil : DGs Z X [] gNil gNilD := ⟨pgs_nil, fun σ H F A s xs ys Q Qd sb z ow nd h k => by
  obtain ⟨rfl, q⟩ := h
  cases z
  exact ⟨rfl, k _ _ F H A q Frm.refl sb ow nd⟩⟩
theorem LiftGs.cons {t : TG} {u : TGs} {m : TGd} {n : TGds} (l : LiftG Z t m) (l' : LiftGs Z u n) : LiftGs Z (gCons t u) (gConsD m n) := by
  intro σ H F A s xs ys Q Qd sb z ow nd h k
  obtain ⟨y, r, rfl, h⟩ := h
  cases z with
  | cons z1 zr =>
    refine ⟨_, _, rfl, ?_⟩
    refine l σ H F [] A s _ _ _ _ sb (.fz z1) ow nd h fun σ' s' F' H' A' q f sb' ow' nd' => ?_
    refine l' σ' H' F' A' s' _ r Q Qd sb' (zr.mono (Sub.of f.fsub)) ow' nd' q fun σ2 s2 F2 H2 A2 q2 f2 sb2 ow2 nd2 => k σ2 s2 F2 H2 A2 q2 (f.trans0 f2) sb2 ow2 nd2
theorem dgs_cons {e : Expr} {es : List Expr} {t : TG} {u : TGs} {m : TGd} {n : TGds} (h1 : DG Z X e t m) (h2 : DGs Z X es u n) (hs : (assignEach (e :: es) X.env).map (·.2) = assign e X.env :: (assignEach es X.env).map (·.2) := by rfl) : DGs Z X (e :: es) (gCons t u) (gConsD m n) := ⟨pgs_cons h1.pg h2.pg hs, .cons h1.lf h2.lf⟩
def gTupD (n : Nat) (g : TGds) : TGd := fun y s Q => ∃ ds, y.frz = .tup ds ∧ ds.length = n ∧ g ds s Q
theorem LiftG.tup {n : Nat} {t : TGs} {m : TGds} (l : LiftGs Z t m) : LiftG Z (gTup Z.K n t) (gTupD n m) := by
  intro σ H F B A s x y Q Qd sb w ow nd h k
  obtain ⟨ds, e, hl, h⟩ := h
  obtain ⟨a, xs, rfl, h1, z1, _⟩ := w.tupV sb e
  refine ⟨a, xs, rfl, SqT.of h1, by rw [z1.length]; exact hl, ?_⟩
  refine l σ H F A s xs ds Q Qd sb z1 ow (nd_r nd) h fun σ' s' F' H' A' q f sb' ow' nd' => k σ' s' F' H' A' q ?_ sb' ow' nd'
  exact f.more (fun a q => List.mem_append_right _ q) (fun a ha => (f.new a ha).imp (List.mem_append_right _) id)
theorem dg_tup {es : List Expr} {k : Nat} {t : TGs} {m : TGds} {n : Nat} (hc : X.calm = true) (hK : X.K = Z.K) (h : DGs Z X es t m) (hn : (assignEach es X.env).length = n := by rfl) (hst : (assignEach es X.env).findIdx? (·.1) = none := by rfl) : DG Z X (.Tuple es k pos) (gTup Z.K n t) (gTupD n m) :=
  ⟨by rw [← hK]; exact pg_tup hc h.pg hn hst, .tup h.lf⟩
def mAug (i : Nat) (m : TD) (f : D → D → M → Prop) : TSd := fun D s => match s[i]? with
  | some (.v (.fz x)) => m s fun w s1 => ∃ y z, res s1 w = some y ∧ f x y z ∧ gNm i z s1 D.nx
  | _ => False
end
end DL
namespace DL
open PySem PySem.Spec L2
section
variable {Z : ZX} {X : Cx} {K : PySem.W.Frag} {F H F1 H1 F2 H2 F3 H3 F' H' : Hp} {A A1 A2 A' Av B : List Addr} {σ : L2.St} {s s1 s2 : DSt} {v : V} {w : W} {pos : Pos}
def mNil : TDs := fun s Q => Q [] s
def mCons (m : TD) (n : TDs) : TDs := fun s Q => m s fun w s1 => n s1 fun ws s2 => Q (w :: ws) s2
theorem Lifts.nil : Lifts Z tNil mNil := fun σ H F A s Q Qd R h k => k _ _ _ _ _ [] _ h ⟨Frm.refl, R.sub, .nil, R.own, R.nd⟩
theorem Lifts.cons {t : TE} {u : TA} {m : TD} {n : TDs} (l : Lift Z t m) (l' : Lifts Z u n) : Lifts Z (tCons t u) (mCons m n) := by
  intro σ H F A s Q Qd R h k
  refine l σ H F A s _ _ R h fun w s1 v F1 H1 Av A1 h1 o1 => ?_
  exact l' σ H1 F1 A1 s1 _ _ (o1.rel R) h1 fun ws s2 vs F2 H2 Aw A2 h2 o2 => k _ _ _ _ _ _ _ h2 (o1.cons o2)
theorem da_nil : DA Z X [] tNil mNil := ⟨pa_nil, .nil⟩
theorem da_cons {e : Expr} {es : List Expr} {t : TE} {u : TA} {m : TD} {n : TDs} (h : DE Z X e t m) (h' : DA Z X es u n) (hs : starEach (e :: es) X.env = (false, eval e X.env) :: starEach es X.env := by rfl) : DA Z X (e :: es) (tCons t u) (mCons m n) := ⟨pa_cons h.pe h'.pa hs, .cons h.lf h'.lf⟩
noncomputable def resL (s : DSt) : List W → Option (List D)
  | [] => some []
  | w :: ws => match res s w with
    | some d => match resL s ws with
      | some ds => some (d :: ds)
      | none => none
    | none => none
inductive OwV (K : PySem.W.Frag) (F H : Hp) : List V → List M → Prop
  | nil : OwV K F H [] []
  | cons {x : V} {m : M} {B : List Addr} {xs : List V} {ms : List M} : Ow K F H x m B → OwV K F H xs ms → OwV K F H (x :: xs) (m :: ms)
theorem WOws.res (o : OwS K F H σ s A) : ∀ {vs : List V} {ws : List W} {B : List Addr} {ds : List D}, WOws K F H σ vs ws B → resL s ws = some ds → ∃ ms, OwV K F H vs ms ∧ ms.map M.frz = ds
  | _, _, _, _, .nil, h => by cases h; exact ⟨[], .nil, rfl⟩
  | _, _, _, _, .cons (w := w) (ws := ws) x r, h => by
    unfold resL at h
    cases e1 : DL.res s w with
    | none => simp [e1] at h
    | some d =>
      cases e2 : resL s ws with
      | none => simp [e1, e2] at h
      | some ds =>
        simp [e1, e2] at h
        obtain ⟨m, C, ow, rfl⟩ := x.res o e1
        obtain ⟨ms, q, rfl⟩ := WOws.res o r e2
        exact ⟨m :: ms, .cons ow q, by simpa using h⟩
def CallD (K : PySem.W.Frag) (r : List V → Hp → VK → Prop) (f : List D → M → Prop) : Prop := ∀ (F H : Hp) (xs : List V) (ms : List M) (z : M) (Q : VK), Sub F H → OwV K F H xs ms → f (ms.map M.frz) z →
  (∀ v F' H' Av, Frm F H [] F' H' Av → Sub F' H' → Ow K F' H' v z Av → Av.Nodup → Q v H') → r xs H Q
def mCB (f : List D → M → Prop) (m : TDs) : TD := fun s Q => m s fun ws s' => ∃ ds z, resL s' ws = some ds ∧ f ds z ∧ Q (.val z) s'
theorem Lift.cb {r : List V → Hp → VK → Prop} {f : List D → M → Prop} {t : TA} {m : TDs} (hd : CallD Z.K r f) (l : Lifts Z t m) : Lift Z (tCB r t) (mCB f m) := by
  intro σ H F A s Q Qd R h k
  refine l σ H F A s _ _ R h fun ws s1 vs F1 H1 Av A1 h1 o1 => ?_
  obtain ⟨ds, z, e, hf, q⟩ := h1
  obtain ⟨ms, ov, rfl⟩ := o1.wow.res o1.own e
  exact hd F1 H1 vs ms z Q o1.sub ov hf fun v F' H' Aw g sb ow nv => k _ _ _ _ _ _ _ q (Out.fin o1.fr o1.own o1.nd g sb ow nv)
theorem de_callB {x : Str} {p : Pos} {e : Expr} {es : List Expr} {t : TA} {m : TDs} {id : String} {r : List V → Hp → VK → Prop} {f : List D → M → Prop} (hc : CallR X (.builtin id) r) (hd : CallD Z.K r f) (hg : Gl X x) (hm : X.mg x = none) (hv : bootBuiltins x = some (.builtin id)) (ha : DA Z X (e :: es) t m) (hn : x ≠ "__name__" := by decide) (hdb : (x == ("__debug__" : Str)) = false := by decide) (he : starEach (e :: es) X.env = (false, eval e X.env) :: starEach es X.env := by rfl) (hpl : (backTo pos (starEach es X.env)).any (·.1) = false := by rfl) : DE Z X (.Call (.Name x p) (e :: es) [] pos) (tCB r t) (mCB f m) :=
  ⟨pe_callB hc hg hm hv ha.pa hn hdb he hpl, .cb hd ha.lf⟩
theorem de_callTy {x : Str} {p : Pos} {e : Expr} {es : List Expr} {t : TA} {m : TDs} {T : String} {r : List V → Hp → VK → Prop} {f : List D → M → Prop} (hc : CallR X (.type T) r) (hd : CallD Z.K r f) (hg : Gl X x) (hm : X.mg x = none) (hv : bootBuiltins x = some (.type T)) (ha : DA Z X (e :: es) t m) (hn : x ≠ "__name__" := by decide) (hdb : (x == ("__debug__" : Str)) = false := by decide) (he : starEach (e :: es) X.env = (false, eval e X.env) :: starEach es X.env := by rfl) (hpl : (backTo pos (starEach es X.env)).any (·.1) = false := by rfl) : DE Z X (.Call (.Name x p) (e :: es) [] pos) (tCB r t) (mCB f m) :=
  ⟨pe_callTy hc hg hm hv ha.pa hn hdb he hpl, .cb hd ha.lf⟩
abbrev CT := List M → (M → List M → Prop) → (Value → Pay → List M → Prop) → Prop
def ioV : Bool → List V → List V
  | true, vs => vs.take 1
  | false, _ => []
def spD (K : PySem.W.Frag) (T : List (Addr × Str)) (io : Bool) (c : CT) : Sp := fun vs H Q E => ∃ (F : Hp) (A : List Addr) (ms : List M) (Rd : M → List M → Prop) (Xd : Value → Pay → List M → Prop), TbF T F ∧ Sub F H ∧ OwL K F H vs ms A ∧ A.Nodup ∧ c ms Rd Xd ∧
  (∀ r ms' v F' H' Av A', Rd r ms' → Frm F H A F' H' (Av ++ A') → Sub F' H' → Ow K F' H' v r Av → OwL K F' H' (ioV io vs) ms' A' → (Av ++ A').Nodup → Q v H') ∧
  (∀ cls pl ms' d F' H' A', Xd cls pl ms' → Frm F H A F' H' A' → Sub F' H' → XPay K F' H' d pl → OwL K F' H' (ioV io vs) ms' A' → A'.Nodup → E cls d H')
def tvs : List W → DSt → (List M → DSt → Prop) → Prop
  | [], s, Q => Q [] s
  | w :: ws, s, Q => tv w s fun m s1 => tvs ws s1 fun ms s2 => Q (m :: ms) s2
theorem tvs_ok : ∀ {vs : List V} {ws : List W} {B : List Addr} {F H : Hp} {A : List Addr} {s : DSt} {Qm : List M → DSt → Prop}, WOws K F H σ vs ws B → Sub F H → OwS K F H σ s A → (B ++ A).Nodup → tvs ws s Qm →
    ∃ ms s' F' B' A', Qm ms s' ∧ Frm F H (B ++ A) F' H (B' ++ A') ∧ Sub F' H ∧ OwL K F' H vs ms B' ∧ OwS K F' H σ s' A' ∧ (B' ++ A').Nodup ∧ (∀ a ∈ B', a ∈ B) ∧ (∀ a ∈ A', a ∈ A)
  | _, _, _, F, H, A, s, Qm, .nil, sb, ow, nd, h => ⟨[], s, F, [], A, h, Frm.refl, sb, .nil, ow, nd, fun _ q => q, fun _ q => q⟩
  | _, _, _, F, H, A, s, Qm, .cons (B1 := B1) (B2 := B2) x r, sb, ow, nd, h => by
    -- the first one, the others and the state held aside
    have nd1 : (B1 ++ A).Nodup := nd_mk (nd_l (nd_l nd)) (nd_r nd) fun a ha hb => nd_x nd a (List.mem_append_left _ ha) hb
    obtain ⟨m, s1, F1, C1, A1, h1, f1, sb1, o1, ow1, n1, hC, hA⟩ := tv_ok x sb ow nd1 h
    have r1 : WOws K F1 H σ _ _ B2 := r.keep f1 fun a ha hb => by
      rcases List.mem_append.mp hb with q | q
      · exact nd_x (nd_l nd) a q ha
      · exact nd_x nd a (List.mem_append_right _ ha) q
    have nd2 : (B2 ++ A1).Nodup := nd_mk (nd_r (nd_l nd)) (nd_r n1) fun a ha hb => nd_x nd a (List.mem_append_right _ ha) (hA a hb)
    obtain ⟨ms, s2, F2, C2, A2, h2, f2, sb2, o2, ow2, n2, hC2, hA2⟩ := tvs_ok r1 sb1 ow1 nd2 h1
    have hx : ∀ a ∈ C1, a ∉ B2 ++ A1 := fun a ha hb => by
      rcases List.mem_append.mp hb with q | q
      · exact nd_x (nd_l nd) a (hC a ha) q
      · exact nd_x n1 a ha q
    refine ⟨m :: ms, s2, F2, C1 ++ C2, A2, h2, ?_, sb2, .cons (o1.keep f2 hx) o2, ow2, ?_, ?_, fun a q => hA a (hA2 a q)⟩
    · have g1 : Frm F H ((B1 ++ B2) ++ A) F1 H (C1 ++ (B2 ++ A1)) := by
        refine Frm.exF f1.fsub (fun a o q => q) (fun a ha => .inl ?_) (fun a o q => ?_) f1.ft
        · rcases List.mem_append.mp ha with q | q
          · exact List.mem_append_left _ (List.mem_append_left _ (hC a q))
          · rcases List.mem_append.mp q with q | q
            · exact List.mem_append_left _ (List.mem_append_right _ q)
            · exact List.mem_append_right _ (hA a q)
        · rcases f1.fnew a o q with q | q | q
          · exact .inl q
          · refine .inr (.inl ?_)
            rcases List.mem_append.mp q with q | q
            · exact List.mem_append_left _ (List.mem_append_left _ q)
            · exact List.mem_append_right _ q
          · exact .inr (.inr q)
      simpa using Frm.trans (B := C1) g1 f2
    · rw [List.append_assoc]
      refine nd_mk (nd_l n1) n2 fun a ha hb => ?_
      rcases List.mem_append.mp hb with q | q
      · exact nd_x (nd_l nd) a (hC a ha) (hC2 a q)
      · exact nd_x n1 a ha (hA2 a q)
    · intro a ha
      rcases List.mem_append.mp ha with q | q
      · exact List.mem_append_left _ (hC a q)
      · exact List.mem_append_right _ (hC2 a q)
def mCall (D : Value → Pay → DSt → Prop) (c : CT) (m : TDs) : TD := fun s Q => m s fun ws s1 => tvs ws s1 fun ms s2 => c ms (fun r _ => Q (.val r) s2) fun cls pl _ => D cls pl s2
theorem Lift.call {c : CT} {t : TA} {m : TDs} (l : Lifts Z t m) : Lift Z (tCallS (spD Z.K Z.T false c) (WE Z.W) t) (mCall Z.D c m) := by
  intro σ H F A s Q Qd R h k
  refine l σ H F A s _ _ R h fun ws s1 vs F1 H1 Av A1 h1 o1 => ?_
  obtain ⟨ms, s2, F2, B2, A2, h2, f2, sb2, ol, ow2, n2, hB, hA⟩ := tvs_ok o1.wow o1.sub o1.own o1.nd h1
  have f12 : Frm F H A F2 H1 (B2 ++ A2) := o1.fr.trans0 f2
  have fA : Frm F H A F2 H1 (A2 ++ B2) := f12.weak fun a ha => (List.mem_append.mp ha).elim (List.mem_append_right _) (List.mem_append_left _)
  have hx : ∀ a ∈ A2, a ∉ B2 := fun a ha hb => nd_x n2 a hb ha
  refine ⟨F2, B2, ms, _, _, R.ex.tb.frm f12, sb2, ol, nd_l n2, h2, fun r ms' v F' H' Aw A' q g sb ow ol' nd => ?_, fun cls pl ms' d F' H' A' q g sb xp ol' nd => ?_⟩
  · have e : A' = [] := by
      cases ol'; rfl
    subst e
    rw [List.append_nil] at g nd
    have f3 := Frm.trans (B := A2) fA g
    refine k _ _ _ _ _ Aw A2 q ⟨f3.weak fun a ha => (List.mem_append.mp ha).elim (List.mem_append_right _) (List.mem_append_left _), sb, .val ow, ow2.keep g hx, ?_⟩
    refine nd_mk nd (nd_r n2) fun a ha hb => ?_
    rcases g.new a ha with p | p
    · exact hx a hb p
    · obtain ⟨o, e, d⟩ := (ow2.out a hb).2
      exact fr_no e d.nt p
  · have e : A' = [] := by
      cases ol'; rfl
    subst e
    have f3 := Frm.trans (B := A2) fA g
    exact R.ex.im cls d pl σ s2 F' H' A2 (f3.weak fun a ha => List.mem_append_left _ ha) sb (ow2.keep g hx) (nd_r n2) xp q
theorem de_call {c : CT} {k : Nat} {f : Addr} {fd : FuncData} {ps : List Str} {x : Str} {p : Pos} {e : Expr} {es : List Expr} {t : TA} {m : TDs} (Fn : FnOk X.prog X.w X.K X.mg X.base (L2.CX X.prog X.w) k f fd ps (spD Z.K Z.T false c)) (hr : Room k X.A) (hg : Gl X x) (hm : X.mg x = some (.ref f)) (hk : PySem.W.keepIn X.K (.ref f) = true) (hb : Binds X.K fd ps []) (tk : Takes X Z.W) (ha : DA Z X (e :: es) t m) (hdb : (x == ("__debug__" : Str)) = false := by decide) (he : starEach (e :: es) X.env = (false, eval e X.env) :: starEach es X.env := by rfl) (hpl : (backTo pos (starEach es X.env)).any (·.1) = false := by rfl) : DE Z X (.Call (.Name x p) (e :: es) [] pos) (tCallS (spD Z.K Z.T false c) (WE Z.W) t) (mCall Z.D c m) :=
  ⟨pe_callS Fn hr hg hm hk hb (fun σ => passAt tk σ) ha.pa hdb he hpl, .call ha.lf⟩
def mCallIO (D : Value → Pay → DSt → Prop) (c : CT) (m : TDs) : TD := fun s Q => m s fun ws s1 => match ws with
  | .slot i :: rest => tvs rest s1 fun ms s2 => match s2[i]? with
    | some sl => match sl.m? with
      | some m0 => c (m0 :: ms) (fun r ms' => match ms' with
          | [m'] => Q (.val r) (s2.set i (sl.put m'))
          | _ => False) fun cls pl ms' => match ms' with
          | [m'] => D cls pl (s2.set i (sl.put m'))
          | _ => False
      | none => False
    | none => False
  | _ => False
theorem Lift.callIO {c : CT} {t : TA} {m : TDs} (l : Lifts Z t m) : Lift Z (tCallS (spD Z.K Z.T true c) (WE Z.W) t) (mCallIO Z.D c m) := by
  intro σ H F A s Q Qd R h k
  refine l σ H F A s _ _ R h fun ws s1 vs F1 H1 Av A1 h1 o1 => ?_
  cases ws with
  | nil => exact h1.elim
  | cons w rest =>
    cases w with
    | val m => exact h1.elim
    | fld _ _ _ => exact h1.elim
    | slot i =>
      have wow := o1.wow
      cases wow with
      | cons x r =>
        cases x with
        | slot ev =>
          rename_i v vs' B2
          have nd1 : (B2 ++ A1).Nodup := by simpa using o1.nd
          obtain ⟨ms, s2, F2, C2, A2, h2, f2, sb2, ol, ow2, n2, hB, hA⟩ := tvs_ok r o1.sub o1.own nd1 h1
          have f12 : Frm F H A F2 H1 (C2 ++ A2) := Frm.trans0 (A1 := B2 ++ A1) (by simpa using o1.fr) f2
          simp only at h2
          cases es : s2[i]? with
          | none => simp [es] at h2
          | some sl =>
            cases em : sl.m? with
            | none => simp [es, em] at h2
            | some m0 =>
              simp only [es, em] at h2
              obtain ⟨x, B0, C, E, ex, ow0, hA2, kk⟩ := ow2.split es em
              rw [ev] at ex
              cases ex
              subst hA2
              have ndA := nd_r n2
              -- the lent thing and the arguments go in; C ++ E stay
              have fA : Frm F H A F2 H1 ((C ++ E) ++ (B0 ++ C2)) := f12.weak fun a ha => by
                simp at ha ⊢
                rcases ha with q | q | q | q <;> simp [q]
              have hx : ∀ a ∈ C ++ E, a ∉ B0 ++ C2 := fun a ha hb => by
                rcases List.mem_append.mp hb with q | q
                · rcases List.mem_append.mp ha with p | p
                  · exact nd_x (nd_l ndA) a p q
                  · exact nd_x ndA a (List.mem_append_right _ q) p
                · refine nd_x n2 a q ?_
                  rw [mem3]
                  rcases List.mem_append.mp ha with p | p
                  · exact .inl p
                  · exact .inr (.inr p)
              have ndB : (B0 ++ C2).Nodup := nd_mk (nd_r (nd_l ndA)) (nd_l n2) fun a ha hb => nd_x n2 a hb (by rw [mem3]; exact .inr (.inl ha))
              have ndCE : (C ++ E).Nodup := nd_mk (nd_l (nd_l ndA)) (nd_r ndA) fun a ha hb => nd_x ndA a (List.mem_append_left _ ha) hb
              have out2 : ∀ a ∈ C ++ E, ∃ o, H1 a = some o ∧ Dt o := fun a ha => (ow2.out a (by
                rw [mem3]
                rcases List.mem_append.mp ha with p | p
                · exact .inl p
                · exact .inr (.inr p))).2
              refine ⟨F2, B0 ++ C2, m0 :: ms, _, _, R.ex.tb.frm fA, sb2, .cons ow0 ol, ndB, h2, fun r ms' u F' H' Aw A' q g sb ow ol' nd => ?_, fun cls pl ms' d F' H' A' q g sb xp ol' nd => ?_⟩
              · cases ms' with
                | nil => exact q.elim
                | cons m' tl =>
                  cases tl with
                  | cons _ _ => exact q.elim
                  | nil =>
                    cases ol' with
                    | cons o' e' =>
                      cases e'
                      rename_i A3
                      have gn : ∀ a ∈ Aw ++ A3, a ∉ C ++ E := fun a ha hb => by
                        rcases g.new a (by simpa using ha) with p | p
                        · exact hx a hb p
                        · obtain ⟨o, e, d⟩ := out2 a hb
                          exact fr_no e d.nt p
                      have f3 := Frm.trans (B := C ++ E) fA g
                      have k3 := kk F' H' (B0 ++ C2) (Aw ++ (A3 ++ [])) m' A3 g hx o'
                      refine k _ _ _ _ _ Aw (C ++ A3 ++ E) q ⟨f3.weak fun a ha => ?_, sb, .val ow, k3, ?_⟩
                      · simp at ha ⊢
                        rcases ha with p | p | p | p <;> simp [p]
                      · have nd' : (Aw ++ A3).Nodup := by simpa using nd
                        refine nd_mk (nd_l nd') (nd_mk (nd_mk (nd_l ndCE) (nd_r nd') fun a ha hb => gn a (List.mem_append_right _ hb) (List.mem_append_left _ ha)) (nd_r ndCE) fun a ha hb => ?_) fun a ha hb => ?_
                        · rcases List.mem_append.mp ha with p | p
                          · exact nd_x ndCE a p hb
                          · exact gn a (List.mem_append_right _ p) (List.mem_append_right _ hb)
                        · rw [mem3] at hb
                          rcases hb with p | p | p
                          · exact gn a (List.mem_append_left _ ha) (List.mem_append_left _ p)
                          · exact nd_x nd' a ha p
                          · exact gn a (List.mem_append_left _ ha) (List.mem_append_right _ p)
              · cases ms' with
                | nil => exact q.elim
                | cons m' tl =>
                  cases tl with
                  | cons _ _ => exact q.elim
                  | nil =>
                    cases ol' with
                    | cons o' e' =>
                      cases e'
                      rename_i A3
                      have gn : ∀ a ∈ A3, a ∉ C ++ E := fun a ha hb => by
                        rcases g.new a (by simpa using ha) with p | p
                        · exact hx a hb p
                        · obtain ⟨o, e, d⟩ := out2 a hb
                          exact fr_no e d.nt p
                      have f3 := Frm.trans (B := C ++ E) fA g
                      have k3 := kk F' H' (B0 ++ C2) (A3 ++ []) m' A3 g hx o'
                      refine R.ex.im cls d pl σ _ F' H' (C ++ A3 ++ E) (f3.weak fun a ha => ?_) sb k3 ?_ xp q
                      · simp at ha ⊢
                        rcases ha with p | p | p <;> simp [p]
                      · have nd' : A3.Nodup := by simpa using nd
                        refine nd_mk (nd_mk (nd_l ndCE) nd' fun a ha hb => gn a hb (List.mem_append_left _ ha)) (nd_r ndCE) fun a ha hb => ?_
                        rcases List.mem_append.mp ha with p | p
                        · exact nd_x ndCE a p hb
                        · exact gn a p (List.mem_append_right _ hb)
end
end DL
namespace DL
open PySem PySem.Spec L2
def pinsD : DSt → List (V × M)
  | [] => []
  | .p x m :: s => (x, m) :: pinsD s
  | _ :: s => pinsD s
def fin (io : Bool) (x0 : V) (s : DSt) (P : List M → Prop) : Prop := match io with
  | true => match pinsD s with
    | [(x, m)] => x = x0 ∧ P [m]
    | _ => False
  | false => P []
def startD (io : Bool) (x0 : V) (ms : List M) (n : Nat) : DSt := (match io, ms with
  | true, m :: r => .p x0 m :: r.map .v
  | _, ms => ms.map .v) ++ List.replicate (n - ms.length) .un
section
variable {P : Program} {w : World} {K : PySem.W.Frag} {mg : Str → Option Value} {base : Heap}
theorem OwS.pins {F H : Hp} : ∀ {σ : L2.St} {s : DSt} {A : List Addr}, OwS K F H σ s A → ∃ A', OwL K F H ((pinsD s).map (·.1)) ((pinsD s).map (·.2)) A' ∧ (∀ a ∈ A', a ∈ A) ∧ (A.Nodup → A'.Nodup)
  | _, _, _, .nil => ⟨[], .nil, fun _ h => h, fun h => h⟩
  | _, _, _, .un r => r.pins
  | _, _, _, .v (A1 := A1) w r => by
    obtain ⟨A', o, h1, h2⟩ := r.pins
    exact ⟨A', o, fun a h => List.mem_append_right _ (h1 a h), fun h => h2 (nd_r h)⟩
  | _, _, _, .p (A1 := A1) w r => by
    obtain ⟨A', o, h1, h2⟩ := r.pins
    refine ⟨A1 ++ A', .cons w o, fun a h => (List.mem_append.mp h).elim (List.mem_append_left _) fun q => List.mem_append_right _ (h1 a q), fun h => nd_mk (nd_l h) (h2 (nd_r h)) fun a ha hb => nd_x h a ha (h1 a hb)⟩
theorem fin_ok {F H : Hp} {io : Bool} {x0 : V} {vs : List V} {σ : L2.St} {s : DSt} {A : List Addr} {Pm : List M → Prop} (ow : OwS K F H σ s A) (h : fin io x0 s Pm) (hv : io = true → vs.take 1 = [x0]) : ∃ ms A', Pm ms ∧ OwL K F H (ioV io vs) ms A' ∧ (∀ a ∈ A', a ∈ A) ∧ (A.Nodup → A'.Nodup) := by
  cases io with
  | false => exact ⟨[], [], h, .nil, (fun _ h => nomatch h), fun _ => List.nodup_nil⟩
  | true =>
    obtain ⟨A', o, h1, h2⟩ := ow.pins
    unfold fin at h
    simp only at h
    cases e : pinsD s with
    | nil => simp [e] at h
    | cons q r =>
      cases r with
      | cons _ _ => simp [e] at h
      | nil =>
        obtain ⟨x, m⟩ := q
        simp only [e] at h
        obtain ⟨rfl, hp⟩ := h
        rw [e] at o
        refine ⟨[m], A', hp, ?_, h1, h2⟩
        show OwL K F H (vs.take 1) [m] A'
        rw [hv rfl]
        exact o
theorem ows_un {F H : Hp} : ∀ n : Nat, OwS K F H (List.replicate n none) (List.replicate n .un) []
  | 0 => .nil
  | n + 1 => .un (ows_un n)
theorem ows_app {F H : Hp} : ∀ {vs : List V} {ms : List M} {A : List Addr} {σ : L2.St} {s : DSt}, OwL K F H vs ms A → OwS K F H σ s [] → OwS K F H (vs.map some ++ σ) (ms.map .v ++ s) A
  | _, _, _, _, _, .nil, h => h
  | _, _, _, _, _, .cons o r, h => .v o (ows_app r h)
theorem OwL.length {F H : Hp} : ∀ {vs : List V} {ms : List M} {A : List Addr}, OwL K F H vs ms A → vs.length = ms.length
  | _, _, _, .nil => rfl
  | _, _, _, .cons _ r => congrArg (· + 1) r.length
theorem ows_start {F H : Hp} {vs : List V} {ms : List M} {A : List Addr} {N : List Str} (io : Bool) (x0 : V) (hv : io = true → vs.take 1 = [x0]) (o : OwL K F H vs ms A) : OwS K F H (L2.start N vs) (startD io x0 ms N.length) A := by
  unfold L2.start startD
  have hl := o.length
  have u : OwS K F H (List.replicate (N.length - vs.length) none) (List.replicate (N.length - ms.length) Slot.un) [] := by rw [hl]; exact ows_un _
  cases io with
  | false => exact ows_app o u
  | true =>
    cases o with
    | nil => exact ows_app .nil u
    | cons q r =>
      have := hv rfl
      simp at this
      subst this
      exact .p q (ows_app r u)
theorem Fun.okG {x qual : Str} {st : Stmt} {f : Addr} {fd : FuncData} {N ps : List Str} {k : Nat} {sp : Sp} (F : Fun K x qual st f fd) (S : FnScope N ps (defScope st)) (len : ∀ vs H Q E, sp vs H Q E → vs.length = ps.length)
    (hbody : ∀ (cdv : Value), fd.code = cdv → ∀ (A : Around) (outer : List Env) (s : Shared) (H : Hp) (vs : List V) (Q : VK) (E : XK), Room k (A.deeper (PyProof.Rows.envOfC qual (defScope st) s.heap.objs.size f cdv)) → sp vs H Q E →
      ∃ t, PSs (cxOf (L2.CX P w) P w K mg base N qual (defScope st) f cdv A outer s H E) (defBody st) t ∧ t { nx := fun _ H' => Q .non H', rt := Q } (L2.start N vs) H) : FnOk P w K mg base (L2.CX P w) (k + 1) f fd ps sp := by
  obtain ⟨oc, od, kV, doc, pm, an, cdv, ct, osl, rfl, lk, hcd⟩ := F.ex
  exact fn_of lk hcd S len fun A outer s H vs Q E hr hsp => hbody cdv rfl A outer s H vs Q E hr hsp
theorem fn_ok {x qual : Str} {st : Stmt} {f : Addr} {fd : FuncData} {N ps : List Str} {k : Nat} {io : Bool} {c : CT} {T : List (Addr × Str)} (Fn : Fun K x qual st f fd) (S : FnScope N ps (defScope st)) (hlen : ∀ ms R X, c ms R X → ms.length = ps.length) (hio : io = true → 0 < ps.length)
    (hbody : ∀ (cdv : Value), fd.code = cdv → ∀ (A : Around) (outer : List Env) (s : Shared) (H : Hp) (E : XK) (x0 : V) (Xd : Value → Pay → List M → Prop), Room k (A.deeper (PyProof.Rows.envOfC qual (defScope st) s.heap.objs.size f cdv)) →
      ∃ t m, DSs ⟨K, fun cls d _ H' => E cls d H', fun cls pl s' => fin io x0 s' (Xd cls pl), T⟩ (cxOf (L2.CX P w) P w K mg base N qual (defScope st) f cdv A outer s H E) (defBody st) t m ∧
        ∀ ms Rd, c ms Rd Xd → m ⟨fun s' => fin io x0 s' (Rd (.fz .non)), fun r s' => fin io x0 s' (Rd r), fun _ => False, fun _ => False⟩ (startD io x0 ms N.length)) :
    FnOk P w K mg base (L2.CX P w) (k + 1) f fd ps (spD K T io c) := by
  have len : ∀ vs H Q E, spD K T io c vs H Q E → vs.length = ps.length := fun vs H Q E h => by
    obtain ⟨F, A, ms, Rd, Xd, _, sb, ol, nd, hc, _⟩ := h
    rw [ol.length]; exact hlen ms Rd Xd hc
  refine Fun.okG Fn S len (fun cdv hcd A outer s H vs Q E hr h => ?_)
  have hl := len vs H Q E h
  obtain ⟨F, A', ms, Rd, Xd, tb, sb, ol, nd, hc, kR, kX⟩ := h
  obtain ⟨x0, hv⟩ : ∃ x0, io = true → vs.take 1 = [x0] := by
    cases vs with
    | nil => exact ⟨.non, fun q => by have := hio q; simp at hl; omega⟩
    | cons x r => exact ⟨x, fun _ => by simp⟩
  obtain ⟨t, m, d, hm⟩ := hbody cdv hcd A outer s H E x0 Xd hr
  refine ⟨t, d.ps, ?_⟩
  refine d.lf (L2.start N vs) H F A' (startD io x0 ms N.length) _ _ ⟨sb, ows_start io x0 hv ol, nd, tb, ?_⟩ (hm ms Rd hc) ⟨?_, ?_, ?_, ?_⟩
  · intro cls dd pl σ' s' F' H' A2 g sb' ow nd' xp q
    obtain ⟨ms', A3, hp, o3, h1, h2⟩ := fin_ok ow q hv
    exact kX cls pl ms' dd F' H' A3 hp (g.weak h1) sb' xp o3 (h2 nd')
  · intro σ' s' F' H' A2 g sb' ow nd' q
    obtain ⟨ms', A3, hp, o3, h1, h2⟩ := fin_ok ow q hv
    exact kR (.fz .non) ms' .non F' H' [] A3 hp (g.weak h1) sb' (.fz .non) o3 (h2 nd')
  · intro σ' s' F' H' A2 g sb' ow nd' q
    exact q.elim
  · intro σ' s' F' H' A2 g sb' ow nd' q
    exact q.elim
  · intro v r σ' s' F' H' Av A2 g sb' wv ow nd' q
    obtain ⟨ms', A3, hp, o3, h1, h2⟩ := fin_ok ow q hv
    refine kR r ms' v F' H' Av A3 hp (g.weak fun a ha => (List.mem_append.mp ha).elim (List.mem_append_left _) fun q => List.mem_append_right _ (h1 a q)) sb' wv o3 ?_
    exact nd_mk (nd_l nd') (h2 (nd_r nd')) fun a ha hb => nd_x nd' a ha (h1 a hb)
theorem takesD {qual : Str} {scope : Scope} {N : List Str} {f : Addr} {cdv : Value} {A : Around} {outer : List Env} {s : Shared} {H : Hp} {E : XK} {D : Value → Pay → DSt → Prop} {T : List (Addr × Str)} :
    Takes (cxOf (L2.CX P w) P w K mg base N qual scope f cdv A outer s H E) (ZX.mk K (fun cls d _ H' => E cls d H') D T).W := takes_of rfl rfl rfl rfl
end
end DL
namespace DL
open PySem PySem.Spec L2
section
variable {Z : ZX} {X : Cx} {K : PySem.W.Frag} {F H F1 H1 F2 H2 F3 H3 F' H' : Hp} {A A1 A2 A' Av B : List Addr} {σ : L2.St} {s s1 s2 : DSt} {v : V} {w : W} {pos : Pos}
theorem OwL.freeze : ∀ {F : Hp} {vs : List V} {ms : List M} {B : List Addr}, OwL K F H vs ms B → Sub F H → B.Nodup → ∃ F', Frm F H B F' H [] ∧ Sub F' H ∧ Fzs K F' vs (ms.map M.frz)
  | F, _, _, _, .nil, sb, _ => ⟨F, Frm.refl, sb, .nil⟩
  | F, _, _, _, .cons (A1 := A1) (A2 := A2) o r, sb, nd => by
    obtain ⟨F1, f1, sb1, z1⟩ := o.freeze sb (nd_l nd)
    have r1 : OwL K F1 H _ _ A2 := r.keep f1 fun a ha hb => nd_x nd a hb ha
    obtain ⟨F2, f2, sb2, z2⟩ := OwL.freeze r1 sb1 (nd_r nd)
    refine ⟨F2, Frm.exF (fun a o h => f2.fsub a o (f1.fsub a o h)) (fun a o h => h) (fun a h => nomatch h) (fun a o h => ?_) (fun a ps h => f1.ft a ps (f2.ft a ps h)), sb2, .cons (z1.mono (Sub.of f2.fsub)) z2⟩
    rcases f2.fnew a o h with q | q | q
    · exact (f1.fnew a o q).imp id fun q => q.imp (List.mem_append_left _) id
    · exact .inr (.inl (List.mem_append_right _ q))
    · exact .inr (.inr q)
def mTup (m : TDs) : TD := fun s Q => m s fun ws s1 => tvs ws s1 fun ms s2 => ms.length ≤ sizeLine ∧ Q (.val (.fz (.tup (ms.map M.frz)))) s2
def mLst (m : TDs) : TD := fun s Q => m s fun ws s1 => tvs ws s1 fun ms s2 => ms.length ≤ sizeLine ∧ Q (.val (.ml (ms.map M.frz))) s2
structure OutF (K : PySem.W.Frag) (F H : Hp) (A : List Addr) (σ : L2.St) (ds : List D) (s' : DSt) (vs : List V) (F' H' : Hp) (A' : List Addr) : Prop where
  fr : Frm F H A F' H' ([] ++ A')
  sub : Sub F' H'
  fz : Fzs K F' vs ds
  own : OwS K F' H' σ s' A'
  nd : ([] ++ A' : List Addr).Nodup
theorem tvs_fz {ws : List W} {vs : List V} {Qm : List M → DSt → Prop} (o : Outs K F H A σ ws s1 vs F1 H1 Av A1) (h : tvs ws s1 Qm) : ∃ ms s2 F2 A2, Qm ms s2 ∧ OutF K F H A σ (ms.map M.frz) s2 vs F2 H1 A2 := by
  obtain ⟨ms, s2, F2, B2, A2, h2, f2, sb2, ol, ow2, n2, hB, hA⟩ := tvs_ok o.wow o.sub o.own o.nd h
  obtain ⟨F3, f3, sb3, z⟩ := OwL.freeze ol sb2 (nd_l n2)
  have f12 : Frm F H A F2 H1 (A2 ++ B2) := (o.fr.trans0 f2).weak fun a ha => (List.mem_append.mp ha).elim (List.mem_append_right _) (List.mem_append_left _)
  refine ⟨ms, s2, F3, A2, h2, (Frm.trans (B := A2) f12 f3).weak fun a ha => by simpa using ha, sb3, z, ow2.keep f3 fun a ha hb => nd_x n2 a hb ha, by simpa using nd_r n2⟩
theorem Lift.tup {t : TA} {m : TDs} (l : Lifts Z t m) : Lift Z (tTup t) (mTup m) := by
  intro σ H F A s Q Qd R h k
  refine l σ H F A s _ _ R h fun ws s1 vs F1 H1 Av A1 h1 o1 => ?_
  obtain ⟨ms, s2, F2, A2, ⟨hl, q⟩, o⟩ := tvs_fz o1 h1
  have hv := o.fz.length
  rw [List.length_map] at hv
  refine ⟨by omega, fun p hp => ?_⟩
  obtain ⟨g, sb, ow⟩ := new_tup o.sub hp o.fz
  exact k _ _ _ _ _ _ _ q (Out.fin o.fr o.own o.nd g sb ow List.nodup_nil)
theorem Lift.lst {t : TA} {m : TDs} (l : Lifts Z t m) : Lift Z (tLst t) (mLst m) := by
  intro σ H F A s Q Qd R h k
  refine l σ H F A s _ _ R h fun ws s1 vs F1 H1 Av A1 h1 o1 => ?_
  obtain ⟨ms, s2, F2, A2, ⟨hl, q⟩, o⟩ := tvs_fz o1 h1
  have hv := o.fz.length
  rw [List.length_map] at hv
  refine ⟨by omega, fun p hp => ?_⟩
  obtain ⟨g, sb, ow⟩ := new_lst o.sub hp o.fz
  exact k _ _ _ _ _ _ _ q (Out.fin o.fr o.own o.nd g sb ow (by simp))
theorem de_tup {es : List Expr} {x1} {t : TA} {m : TDs} (h : DA Z X es t m) : DE Z X (.Tuple es x1 pos) (tTup t) (mTup m) := ⟨pe_tup h.pa, .tup h.lf⟩
theorem de_lst {es : List Expr} {t : TA} {m : TDs} (h : DA Z X es t m) : DE Z X (.List es pos) (tLst t) (mLst m) := ⟨pe_lst h.pa, .lst h.lf⟩
def rIxD : R2 := fun x y H Q => ∃ a v, x = .ref a ∧ DGet H a y (some v) ∧ Q v H
theorem ix_dict (hu : X.A.units + 1 < cLine) : IxR X rIxD := by
  intro value slice pins s σ H x y v u Q I rx ry h hs
  obtain ⟨a, z, rfl, g, q⟩ := h
  obtain rfl : v = Value.ref a := rx
  exact PyProof.Rows.tail_any (dict_typeIs I g) PySem.F.slot_dict_getitem.lookup (d_getItem hu I g ry fun w' s' I' r' => ⟨z, H, I', r', q⟩) hs
def rIxA (K : PySem.W.Frag) : R2 := fun x y H Q => (rIxL K x y H Q ∨ rIxT K x y H Q ∨ rIxS x y H Q) ∨ rIxD x y H Q
theorem ix_all (hK : X.K = K) (hu : X.A.units + 1 < cLine) : IxR X (rIxA K) := by
  subst hK
  exact IxR.or ix_seq (ix_dict hu)
def valD {κ : Type} [DecidableEq κ] : List (κ × D) → κ → Option D
  | [], _ => none
  | (k, d) :: r, j => if k = j then some d else valD r j
def D.key : D → Option Key
  | .int i => some (.inl i)
  | .str x => some (.inr x)
  | _ => none
def D.keys : List D → Option (List Key)
  | [] => some []
  | d :: ds => match d.key with
    | some k => match D.keys ds with
      | some ks => some (k :: ks)
      | none => none
    | none => none
theorem Fz.key {F : Hp} {v : V} {d : D} {k : Key} (z : Fz K F v d) (h : d.key = some k) : v = kV k := by
  cases z <;> cases h <;> rfl
theorem Fzs.keys {F : Hp} : ∀ {vs : List V} {ds : List D} {ks : List Key}, Fzs K F vs ds → D.keys ds = some ks → vs = ks.map kV
  | _, _, _, .nil, h => by cases h; rfl
  | _, _, _, .cons (d := d) (ds := ds) z r, h => by
    unfold D.keys at h
    cases e1 : d.key with
    | none => simp [e1] at h
    | some k =>
      cases e2 : D.keys ds with
      | none => simp [e1, e2] at h
      | some ks =>
        simp [e1, e2] at h
        subst h
        rw [z.key e1, Fzs.keys r e2]
        rfl
def OptFz (K : PySem.W.Frag) (F : Hp) : Option V → Option D → Prop
  | some v, some d => Fz K F v d
  | none, none => True
  | _, _ => False
theorem Fzk.val {F : Hp} : ∀ {kvs : List (Key × V)} {ds : List (Key × D)} (k : Key), Fzk K F kvs ds → OptFz K F (valV kvs k) (valD ds k)
  | _, _, k, .nil => by simp [valV, valD, OptFz]
  | _, _, k, .cons (k := j) (v := v) (d := d) z r => by
    by_cases e : j = k
    · rw [valV_pos (p := (j, v)) e, valD, if_pos e]; exact z
    · rw [valV_neg (p := (j, v)) e, valD, if_neg e]; exact Fzk.val k r
theorem Fzt.val {F : Hp} : ∀ {kvs : List (List Key × V)} {ds : List (List Key × D)} (k : List Key), Fzt K F kvs ds → OptFz K F (valV kvs k) (valD ds k)
  | _, _, k, .nil => by simp [valV, valD, OptFz]
  | _, _, k, .cons (k := j) (v := v) (d := d) z r => by
    by_cases e : j = k
    · rw [valV_pos (p := (j, v)) e, valD, if_pos e]; exact z
    · rw [valV_neg (p := (j, v)) e, valD, if_neg e]; exact Fzt.val k r
theorem Ow.dicV {x : V} {m : M} {B : List Addr} {ds : List (Key × D)} (sb : Sub F H) (w : Ow K F H x m B) (e : m.frz = .dic ds) : ∃ a kvs, x = .ref a ∧ Rd H a (.dK kvs) ∧ Fzk K F kvs ds := by
  cases w with
  | fz z =>
    cases e
    cases z with
    | dic h r => exact ⟨_, _, rfl, sb.rd h, r⟩
  | ml n h r => cases e
  | md n h r => cases e; exact ⟨_, _, rfl, .inl h, r⟩
  | mt n h r => cases e
  | mo n h r => cases e
theorem Ow.ditV {x : V} {m : M} {B : List Addr} {ds : List (List Key × D)} (sb : Sub F H) (w : Ow K F H x m B) (e : m.frz = .dit ds) : ∃ a kvs, x = .ref a ∧ Rd H a (.dT kvs) ∧ Fzt K F kvs ds := by
  cases w with
  | fz z =>
    cases e
    cases z with
    | dit h r => exact ⟨_, _, rfl, sb.rd h, r⟩
  | ml n h r => cases e
  | md n h r => cases e
  | mt n h r => cases e; exact ⟨_, _, rfl, .inl h, r⟩
  | mo n h r => cases e
theorem Ow.dilV {x : V} {m : M} {B : List Addr} {ds : List (List Key × D)} (sb : Sub F H) (w : Ow K F H x m B) (e : m.frz = .dil ds) : ∃ a o kvs, x = .ref a ∧ F a = some (.frz o (.dT kvs)) ∧ H a = some (.frz o (.dT kvs)) ∧ Fzt K F kvs ds := by
  cases w with
  | fz z =>
    cases e
    cases z with
    | dil h r => exact ⟨_, _, _, rfl, h, sb.frz h, r⟩
  | ml n h r => cases e
  | md n h r => cases e
  | mt n h r => cases e
  | mo n h r => cases e
def D.look : D → D → Option D → Prop
  | .dic kvs, k, o => ∃ j, k.key = some j ∧ o = valD kvs j
  | .dit kvs, .tup ks, o => ∃ j, D.keys ks = some j ∧ o = valD kvs j
  | .dil kvs, .tup ks, o => ∃ j, D.keys ks = some j ∧ o = valD kvs j
  | _, _, _ => False
theorem dget_ok {x y : V} {m1 m2 : M} {B1 B2 : List Addr} {d1 d2 : D} {o : Option D} (sb : Sub F H) (w1 : Ow K F H x m1 B1) (w2 : Ow K F H y m2 B2) (e1 : m1.frz = d1) (e2 : m2.frz = d2) (h : D.look d1 d2 o) : ∃ a ov, x = .ref a ∧ DGet H a y ov ∧ OptFz K F ov o := by
  cases d1 with
  | dic kvs =>
    obtain ⟨j, ej, rfl⟩ := h
    obtain ⟨a, ws, rfl, hr, z⟩ := w1.dicV sb e1
    have hy : y = kV j := by
      have z2 := (w2.view sb)
      rw [e2] at z2
      exact z2.key ej
    exact ⟨a, valV ws j, rfl, .inl ⟨ws, j, hr, hy, rfl⟩, z.val j⟩
  | dit kvs =>
    cases d2 with
    | tup ks =>
      obtain ⟨j, ej, rfl⟩ := h
      obtain ⟨a, ws, rfl, hr, z⟩ := w1.ditV sb e1
      obtain ⟨b, xs, rfl, ht, zt, _⟩ := w2.tupV sb e2
      have hx := zt.keys ej
      subst hx
      exact ⟨a, valV ws j, rfl, .inr ⟨ws, j, b, hr, rfl, ht, rfl⟩, z.val j⟩
    | _ => exact h.elim
  | dil kvs =>
    cases d2 with
    | tup ks =>
      obtain ⟨j, ej, rfl⟩ := h
      obtain ⟨a, ob, ws, rfl, _, hr, z⟩ := w1.dilV sb e1
      obtain ⟨b, xs, rfl, ht, zt, _⟩ := w2.tupV sb e2
      have hx := zt.keys ej
      subst hx
      exact ⟨a, valV ws j, rfl, .inr ⟨ws, j, b, .inr ⟨ob, hr⟩, rfl, ht, rfl⟩, z.val j⟩
    | _ => exact h.elim
  | _ => cases d2 <;> exact h.elim
theorem Ow.wtuV {x : V} {m : M} {B : List Addr} {ds : List D} (w : Ow K F H x m B) (e : m.frz = .wtu ds) : ∃ a xs, x = .ref a ∧ WrT K a xs ∧ Fzs K F xs ds := by
  cases w with
  | fz z =>
    cases e
    cases id z with
    | wtu h r => exact ⟨_, _, rfl, h, r⟩
  | ml n h r => cases e
  | md n h r => cases e
  | mt n h r => cases e
  | mo n h r => cases e
theorem Ow.scrV {x : V} {m : M} {B : List Addr} {ns : List Int} (sb : Sub F H) (w : Ow K F H x m B) (e : m.frz = .scr ns) : ∃ a, x = .ref a ∧ SqL K H a (ns.map V.int) := by
  cases w with
  | fz z =>
    cases e
    cases id z with
    | scr h => exact ⟨_, rfl, sb.sqL h⟩
  | ml n h r => cases e
  | md n h r => cases e
  | mt n h r => cases e
  | mo n h r => cases e
def dIdx : D → D → M → Prop
  | .lst ds, .int i, z => ∃ d, atI ds i = some d ∧ z = .fz d
  | .tup ds, .int i, z => ∃ d, atI ds i = some d ∧ z = .fz d
  | .wtu ds, .int i, z => ∃ d, atI ds i = some d ∧ z = .fz d
  | .scr ns, .int i, z => ∃ n, atI ns i = some n ∧ z = .fz (.int n)
  | .str x, .int i, z => x.length ≤ sizeLine ∧ ∃ c, atI x.cps.toList i = some c ∧ z = .fz (.str ⟨#[c]⟩)
  | .dic kvs, k, z => ∃ d, D.look (.dic kvs) k (some d) ∧ z = .fz d
  | .dit kvs, k, z => ∃ d, D.look (.dit kvs) k (some d) ∧ z = .fz d
  | .dil kvs, k, z => ∃ d, D.look (.dil kvs) k (some d) ∧ z = .fz d
  | _, _, _ => False
theorem atI_fz {vs : List V} {ds : List D} {i : Int} {d : D} (z : Fzs K F vs ds) (h : atI ds i = some d) : ∃ v, atI vs i = some v ∧ Fz K F v d := by
  unfold atI at h ⊢
  rw [z.length]
  cases e : ixN ds.length i with
  | none => simp [e] at h
  | some j =>
    simp [e] at h ⊢
    exact z.get h
theorem od_idx : OpD K (rIxA K) dIdx := by
  intro F H x y m1 m2 B1 B2 z Q sb w1 w2 hz k
  generalize e1 : m1.frz = d1 at hz
  generalize e2 : m2.frz = d2 at hz
  have seqc : ∀ {d : D} {v : V}, Fz K F v d → z = .fz d → Q v H := fun {d v} zv e => by
    subst e; exact k _ F H [] Frm.refl sb (.fz zv) List.nodup_nil
  cases d1 with
  | lst ds =>
    cases d2 with
    | int i =>
      obtain ⟨d, hd, rfl⟩ := hz
      obtain ⟨a, xs, rfl, hx, zz⟩ := w1.lstV sb e1
      obtain ⟨v, hv, zv⟩ := atI_fz zz hd
      exact .inl (.inl ⟨a, xs, i, v, rfl, w2.intV e2, SqL.of hx, hv, seqc zv rfl⟩)
    | _ => exact hz.elim
  | tup ds =>
    cases d2 with
    | int i =>
      obtain ⟨d, hd, rfl⟩ := hz
      obtain ⟨a, xs, rfl, hx, zz, _⟩ := w1.tupV sb e1
      obtain ⟨v, hv, zv⟩ := atI_fz zz hd
      exact .inl (.inr (.inl ⟨a, xs, i, v, rfl, w2.intV e2, SqT.of hx, hv, seqc zv rfl⟩))
    | _ => exact hz.elim
  | wtu ds =>
    cases d2 with
    | int i =>
      obtain ⟨d, hd, rfl⟩ := hz
      obtain ⟨a, xs, rfl, hx, zz⟩ := w1.wtuV e1
      obtain ⟨v, hv, zv⟩ := atI_fz zz hd
      exact .inl (.inr (.inl ⟨a, xs, i, v, rfl, w2.intV e2, .inr hx, hv, seqc zv rfl⟩))
    | _ => exact hz.elim
  | scr ns =>
    cases d2 with
    | int i =>
      obtain ⟨n, hn, rfl⟩ := hz
      obtain ⟨a, rfl, hx⟩ := w1.scrV sb e1
      refine .inl (.inl ⟨a, _, i, .int n, rfl, w2.intV e2, hx, ?_, seqc (.int n) rfl⟩)
      unfold atI at hn ⊢
      rw [List.length_map]
      cases e : ixN ns.length i with
      | none => simp [e] at hn
      | some j =>
        simp [e] at hn ⊢
        exact hn
    | _ => exact hz.elim
  | str x =>
    cases d2 with
    | int i =>
      obtain ⟨hl, c, hc, rfl⟩ := hz
      exact .inl (.inr (.inr ⟨x, i, c, w1.strV e1, w2.intV e2, hl, hc, seqc (.str _) rfl⟩))
    | _ => exact hz.elim
  | dic kvs =>
    obtain ⟨d, hd, rfl⟩ := hz
    obtain ⟨a, ov, rfl, g, hm⟩ := dget_ok sb w1 w2 e1 e2 hd
    cases ov with
    | none => exact hm.elim
    | some v => exact .inr ⟨a, v, rfl, g, seqc hm rfl⟩
  | dit kvs =>
    obtain ⟨d, hd, rfl⟩ := hz
    obtain ⟨a, ov, rfl, g, hm⟩ := dget_ok sb w1 w2 e1 e2 hd
    cases ov with
    | none => exact hm.elim
    | some v => exact .inr ⟨a, v, rfl, g, seqc hm rfl⟩
  | dil kvs =>
    obtain ⟨d, hd, rfl⟩ := hz
    obtain ⟨a, ov, rfl, g, hm⟩ := dget_ok sb w1 w2 e1 e2 hd
    cases ov with
    | none => exact hm.elim
    | some v => exact .inr ⟨a, v, rfl, g, seqc hm rfl⟩
  | _ => cases d2 <;> exact hz.elim
theorem de_ix {a b : Expr} {ta tb : TE} {ma mb : TD} (hK : X.K = Z.K) (hu : X.A.units + 1 < cLine) (ha : DE Z X a ta ma) (hb : DE Z X b tb mb) (hs : PlainIx b := by exact fun _ _ => rfl) : DE Z X (.Subscript a b pos) (tOp (rIxA Z.K) ta tb) (mOp dIdx ma mb) :=
  ⟨pe_ix (ix_all hK hu) ha.pe hb.pe hs, .op od_idx ha.lf hb.lf⟩
abbrev TOd := DSt → (Option Int → DSt → Prop) → Prop
def LiftO (Z : ZX) (t : TO) (m : TOd) : Prop := ∀ (σ : L2.St) (H F : Hp) (A : List Addr) (s : DSt) (Q : Option Int → Hp → Prop) (Qd : Option Int → DSt → Prop), Rel Z F H σ s A → m s Qd →
  (∀ o s' F' H' A', Qd o s' → OutT Z.K F H A σ s' F' H' A' → Q o H') → t σ H Q
structure DO (Z : ZX) (X : Cx) (e : Option Expr) (t : TO) (m : TOd) : Prop where
  po : PO X e t
  lf : LiftO Z t m
def mNoPart : TOd := fun s Q => Q none s
def mPart (m : TD) : TOd := fun s Q => m s fun w s' => ∃ i, res s' w = some (.int i) ∧ Q (some i) s'
theorem do_none : DO Z X none tNoPart mNoPart := ⟨po_none, fun σ H F A s Q Qd R h k => k _ _ _ _ _ h ⟨Frm.refl, R.sub, R.own, R.nd⟩⟩
theorem do_some {e : Expr} {t : TE} {m : TD} (h : DE Z X e t m) : DO Z X (some e) (tPart t) (mPart m) := ⟨po_some h.pe, fun σ H F A s Q Qd R q k => by
  refine h.lf σ H F A s _ _ R q fun w s1 v F1 H1 Av A1 h1 o1 => ?_
  obtain ⟨i, e, q⟩ := h1
  have z := o1.wow.view o1.sub o1.own e
  cases z
  exact ⟨i, rfl, k _ _ _ _ _ q o1.t⟩⟩
def cutG {α : Type} (xs : List α) (lo hi : Option Int) : List α := (xs.drop (HT.sIx xs.length 0 lo)).take (HT.sIx xs.length xs.length hi - HT.sIx xs.length 0 lo)
def dSl : D → Option Int → Option Int → M → Prop
  | .lst ds, lo, hi, z => z = .ml (cutG ds lo hi)
  | .tup ds, lo, hi, z => z = .fz (.tup (cutG ds lo hi))
  | .str x, lo, hi, z => x.length ≤ sizeLine ∧ z = .fz (.str (cutS x lo hi))
  | _, _, _, _ => False
def rSlA3 (K : PySem.W.Frag) : V → Option Int → Option Int → Hp → VK → Prop := fun x lo hi H Q => (rSlL K x lo hi H Q ∨ rSlA K x lo hi H Q) ∨ rSlS x lo hi H Q
theorem sl_any (hK : X.K = K) : SlR X (rSlA3 K) := by
  subst hK
  exact SlR.or (SlR.or sl_list sl_tupA) sl_str
theorem Fzs.cut {vs : List V} {ds : List D} (z : Fzs K F vs ds) (lo hi : Option Int) : Fzs K F (cutV vs lo hi) (cutG ds lo hi) := by
  unfold cutV cutG
  rw [z.length]
  exact (z.drop _).take _
theorem cut_whole {α : Type} {ds : List α} {lo hi : Option Int} (h : HT.sIx ds.length 0 lo = 0 ∧ HT.sIx ds.length ds.length hi = ds.length) : cutG ds lo hi = ds := by
  unfold cutG
  rw [h.1, h.2]
  simp
def mSl (m : TD) (ml mh : TOd) : TD := fun s Q => m s fun w s1 => ml s1 fun lo s2 => mh s2 fun hi s3 => ∃ x z, res s3 w = some x ∧ dSl x lo hi z ∧ Q (.val z) s3
theorem Lift.sl {t : TE} {m : TD} {tl th : TO} {ml mh : TOd} (l : Lift Z t m) (ll : LiftO Z tl ml) (lh : LiftO Z th mh) : Lift Z (tSl (rSlA3 Z.K) t tl th) (mSl m ml mh) := by
  intro σ H F A s Q Qd R h k
  refine l σ H F A s _ _ R h fun w s1 v F1 H1 Av A1 h1 o1 => ?_
  refine ll σ H1 F1 A1 s1 _ _ (o1.rel R) h1 fun lo s2 F2 H2 A2 h2 o2 => ?_
  refine lh σ H2 F2 A2 s2 _ _ (o2.rel (o1.rel R)) h2 fun hi s3 F3 H3 A3 h3 o3 => ?_
  obtain ⟨x, z, ex, hz, q⟩ := h3
  have o23 := o2.trans o3
  have hx := nd_x o1.nd
  have f3 : Frm F H A F3 H3 (Av ++ A3) := Frm.trans (B := Av) o1.fr o23.fr
  have wo := o1.wow.keep o23.fr hx
  have nd3 : (Av ++ A3).Nodup := nd_mk (nd_l o1.nd) o23.nd (apart (fun a h => (o1.wow.out a h).2) hx o23.fr)
  obtain ⟨m1, C1, w1, rfl⟩ := wo.res o3.own ex
  generalize e1 : m1.frz = d1 at hz
  cases d1 with
  | lst ds =>
    cases hz
    obtain ⟨a, xs, rfl, hx, zz⟩ := w1.lstV o3.sub e1
    refine .inl (.inl ⟨a, xs, rfl, SqL.of hx, fun p hp => ?_⟩)
    obtain ⟨g, sb, ow⟩ := new_lst o3.sub hp (zz.cut lo hi)
    exact k _ _ _ _ _ _ _ q (Out.fin f3 o3.own nd3 g sb ow (by simp))
  | tup ds =>
    cases hz
    obtain ⟨a, xs, rfl, hx, zz, zf⟩ := w1.tupV o3.sub e1
    have hl := zz.length
    refine .inl (.inr ⟨a, xs, rfl, SqT.of hx, fun hw => ?_, fun hw p hp => ?_⟩)
    · rw [hl] at hw
      rw [cut_whole hw] at q
      exact k _ _ _ _ _ _ _ q (Out.fin0 f3 o3.sub o3.own nd3 zf)
    · obtain ⟨g, sb, ow⟩ := new_tup o3.sub hp (zz.cut lo hi)
      exact k _ _ _ _ _ _ _ q (Out.fin f3 o3.own nd3 g sb ow List.nodup_nil)
  | str x =>
    obtain ⟨hl, rfl⟩ := hz
    exact .inr ⟨x, w1.strV e1, hl, k _ _ _ _ _ _ _ q (Out.fin0 f3 o3.sub o3.own nd3 (.str _))⟩
  | _ => exact hz.elim
theorem de_sl {a : Expr} {lo hi : Option Expr} {ta : TE} {ma : TD} {tl th : TO} {ml mh : TOd} {p2 : Pos} (hK : X.K = Z.K) (ha : DE Z X a ta ma) (hl : DO Z X lo tl ml) (hh : DO Z X hi th mh) : DE Z X (.Subscript a (.Slice lo hi none p2) pos) (tSl (rSlA3 Z.K) ta tl th) (mSl ma ml mh) :=
  ⟨pe_slice (sl_any hK) ha.pe hl.po hh.po, .sl ha.lf hl.lf hh.lf⟩
end
end DL
namespace DL
open PySem PySem.Spec L2
structure ItD (K : PySem.W.Frag) (J : It) (ds : List D) (G : Hp → Prop) : Prop where
  mono : ∀ F F', (∀ a o, F a = some o → F' a = some o) → G F → G F'
  go : ∀ i F H, Sub F H → G F → i < ds.length → J.go i H
  yld : ∀ (i : Nat) F H x H' d, Sub F H → G F → ds[i]? = some d → J.yld i H x H' → ∃ F', Frm F H [] F' H' [] ∧ Sub F' H' ∧ Fz K F' x d
  stop : ∀ F H, Sub F H → G F → J.stop ds.length H
abbrev TId := DSt → (List D → DSt → Prop) → Prop
def LiftI (Z : ZX) (t : TI) (m : TId) : Prop := ∀ (σ : L2.St) (H F : Hp) (A : List Addr) (s : DSt) (R : It → Hp → Prop) (Rd : List D → DSt → Prop), Rel Z F H σ s A → m s Rd →
  (∀ ds s' F' H' A' J G, Rd ds s' → OutT Z.K F H A σ s' F' H' A' → ItD Z.K J ds G → G F' → R J H') → t σ H R
structure DI (Z : ZX) (X : Cx) (tg iter : Expr) (t : TI) (m : TId) : Prop where
  pi : PI X tg iter t
  lf : LiftI Z t m
section
variable {Z : ZX} {X : Cx} {K : PySem.W.Frag} {F H F1 H1 F2 H2 F3 H3 F' H' : Hp} {A A1 A2 A' Av B : List Addr} {σ : L2.St} {s s1 s2 : DSt} {v : V} {w : W} {pos : Pos} {tg : Expr}
theorem PI.or {e : Expr} {t u : TI} (h : PI X tg e t) (h' : PI X tg e u) : PI X tg e (fun σ H R => t σ H R ∨ u σ H R) := ⟨fun pins s σ H R I q => by
  rcases q with q | q
  · exact h.run pins s σ H R I q
  · exact h'.run pins s σ H R I q⟩
theorem itd_list {a : Addr} {xs : List V} {ds : List D} : ItD K (Itl K a) ds (fun F => F a = some (.lst xs) ∧ Fzs K F xs ds) where
  mono := fun F F' s g => ⟨s _ _ g.1, g.2.mono (Sub.of s)⟩
  go := fun i F H sb g hi => by
    obtain ⟨d, hd⟩ : ∃ d, ds[i]? = some d := ⟨ds[i], by simp [hi]⟩
    obtain ⟨x, hx, _⟩ := g.2.get hd
    exact ⟨xs, x, SqL.of (sb.lst g.1), hx⟩
  yld := fun i F H x H' d sb g hd hy => by
    obtain ⟨rfl, hy⟩ := hy
    obtain ⟨y, hx, z⟩ := g.2.get hd
    have := hy xs (SqL.of (sb.lst g.1))
    rw [hx] at this
    cases this
    exact ⟨F, Frm.refl, sb, z⟩
  stop := fun F H sb g => ⟨xs, SqL.of (sb.lst g.1), by rw [g.2.length]; exact Nat.le_refl _⟩
theorem itd_scr {a : Addr} {ns : List Int} (hinj : True) : ItD K (Itl K a) (ns.map D.int) (fun F => SqL K F a (ns.map V.int)) where
  mono := fun F F' s g => (Sub.of s).sqL g
  go := fun i F H sb g hi => by
    rw [List.length_map] at hi
    exact ⟨_, .int ns[i], sb.sqL g, by simp [hi]⟩
  yld := fun i F H x H' d sb g hd hy => by
    obtain ⟨rfl, hy⟩ := hy
    have := hy _ (sb.sqL g)
    rw [List.getElem?_map] at hd this
    cases e : ns[i]? with
    | none => simp [e] at hd
    | some n =>
      simp [e] at hd this
      subst hd this
      exact ⟨F, Frm.refl, sb, .int n⟩
  stop := fun F H sb g => ⟨_, sb.sqL g, by simp⟩
theorem itd_tup {a : Addr} {xs : List V} {ds : List D} : ItD K (Itt K a) ds (fun F => SqT K F a xs ∧ Fzs K F xs ds) where
  mono := fun F F' s g => ⟨(Sub.of s).sqT g.1, g.2.mono (Sub.of s)⟩
  go := fun i F H sb g hi => by
    obtain ⟨d, hd⟩ : ∃ d, ds[i]? = some d := ⟨ds[i], by simp [hi]⟩
    obtain ⟨x, hx, _⟩ := g.2.get hd
    exact ⟨xs, x, sb.sqT g.1, hx⟩
  yld := fun i F H x H' d sb g hd hy => by
    obtain ⟨rfl, hy⟩ := hy
    obtain ⟨y, hx, z⟩ := g.2.get hd
    have := hy xs (sb.sqT g.1)
    rw [hx] at this
    cases this
    exact ⟨F, Frm.refl, sb, z⟩
  stop := fun F H sb g => ⟨xs, sb.sqT g.1, by rw [g.2.length]; exact Nat.le_refl _⟩
def chars (x : Str) : List D := x.cps.toList.map fun c => .str ⟨#[c]⟩
theorem itd_str {x : Str} : ItD K (Its x) (chars x) (fun _ => True) where
  mono := fun _ _ _ g => g
  go := fun i F H sb g hi => by
    have hi' : i < x.cps.size := by simpa [chars] using hi
    exact hi'
  yld := fun i F H v H' d sb g hd hy => by
    obtain ⟨rfl, c, hc, rfl⟩ := hy
    have e : (chars x)[i]? = some (.str ⟨#[c]⟩) := by
      unfold chars
      rw [List.getElem?_map]
      simp [hc]
    rw [e] at hd
    cases hd
    exact ⟨F, Frm.refl, sb, .str _⟩
  stop := fun F H sb g => by
    show x.cps.size ≤ (chars x).length
    simp [chars]
def rng (lo : Int) (n : Nat) : List D := (List.range n).map fun i => .int (lo + (i : Nat))
theorem itd_range {lo : Int} {n : Nat} : ItD K (Itr lo n) (rng lo n) (fun _ => True) where
  mono := fun _ _ _ g => g
  go := fun i F H sb g hi => by
    have hi' : i < n := by simpa [rng] using hi
    exact hi'
  yld := fun i F H v H' d sb g hd hy => by
    obtain ⟨rfl, rfl⟩ := hy
    have hi : i < n := by
      have := (List.getElem?_eq_some_iff.mp hd).1
      simpa [rng] using this
    have e : (rng lo n)[i]? = some (.int (lo + i)) := by
      unfold rng
      rw [List.getElem?_map]
      simp [hi]
    rw [e] at hd
    cases hd
    exact ⟨F, Frm.refl, sb, .int _⟩
  stop := fun F H sb g => by
    show n ≤ (rng lo n).length
    simp [rng]
def rngC (lo c : Int) (n : Nat) : List D := (List.range n).map fun i => .int (lo + (i : Nat) * c)
def D.items : D → Option (List D)
  | .lst ds => some ds
  | .tup ds => some ds
  | .wtu ds => some ds
  | .scr ns => some (ns.map D.int)
  | .str x => some (chars x)
  | _ => none
def mItems (m : TD) : TId := fun s R => m s fun w s1 => tv w s1 fun y s2 => ∃ ds, y.frz.items = some ds ∧ R ds s2
def rIter (K : PySem.W.Frag) : V → Hp → (It → Hp → Prop) → Prop := fun x H R =>
  ((∃ a, x = .ref a ∧ (∃ xs, SqL K H a xs) ∧ R (Itl K a) H) ∨ (∃ a, x = .ref a ∧ (∃ xs, SqT K H a xs) ∧ R (Itt K a) H)) ∨ ∃ z, x = .str z ∧ R (Its z) H
theorem iter_val {pins : List (Addr × Obj)} {s : Shared} {x : V} {u : Value} {R : It → Hp → Prop} (I : L2.Inv X pins σ H s) (r : RelV x u) (h : rIter X.K x H R) : wpAny (model X.prog X.w) X.A (pyIter u) (PIE X pins σ tg R) X.xe s := by
  rcases h with (⟨a, rfl, ⟨xs, hq⟩, q⟩ | ⟨a, rfl, ⟨xs, hq⟩, q⟩) | ⟨z, rfl, q⟩
  · cases r
    obtain ⟨its, rv, p, hz⟩ := I.list hq
    exact wpAny_pyIter_list p.isList (pi_one (tk := s.toks) I _ (turn_list a _) ⟨_, Heap.get?_push_size _ rfl, rfl, rfl⟩ q)
  · cases r
    obtain ⟨its, rv, p, hz⟩ := I.tuple hq
    exact wpAny_pyIter_tuple (show s.heap.IsTuple a its.toArray from p) (pi_one (tk := s.toks) I _ (turn_tuple a _) ⟨_, Heap.get?_push_size _ rfl, rfl, rfl⟩ q)
  · obtain ⟨t, rfl⟩ := r
    cases ha : z.cps.all (· < 128)
    · exact wpAny_pyIter_wide ha (pi_one (tk := s.toks) I _ (turn_str _ z t "str_iterator" (.inr rfl)) ⟨_, Heap.get?_push_size _ rfl, rfl, rfl⟩ q)
    · exact wpAny_pyIter_ascii ha (pi_one (tk := s.toks) I _ (turn_str _ z t "str_ascii_iterator" (.inl rfl)) ⟨_, Heap.get?_push_size _ rfl, rfl, rfl⟩ q)
def iAny (K : PySem.W.Frag) (t : TE) : TI := fun σ H R => t σ H fun x H1 => rIter K x H1 R
theorem pi_any {e : Expr} {t : TE} (hK : X.K = K) (h : PE X e t) : PI X tg e (iAny K t) := ⟨fun pins s σ H R I q => by
  subst hK
  exact thn (h.run pins s σ H _ I q) fun u s1 ⟨x, H1, I1, r1, q1⟩ => iter_val I1 r1 q1⟩
theorem tv_fz {Qm : M → DSt → Prop} (o : Out K F H A σ w s1 v F1 H1 Av A1) (h : tv w s1 Qm) : ∃ m s2 F2 A2, Qm m s2 ∧ OutT K F H A σ s2 F2 H1 A2 ∧ Fz K F2 v m.frz := by
  obtain ⟨m, s2, F2, B2, A2, h2, f2, sb2, ow1, ow2, n2, hB, hA⟩ := tv_ok o.wow o.sub o.own o.nd h
  obtain ⟨F3, f3, sb3, z⟩ := ow1.freeze sb2 (nd_l n2)
  have f12 : Frm F H A F2 H1 (A2 ++ B2) := (o.fr.trans0 f2).weak fun a ha => (List.mem_append.mp ha).elim (List.mem_append_right _) (List.mem_append_left _)
  exact ⟨m, s2, F3, A2, h2, ⟨(Frm.trans (B := A2) f12 f3).weak fun a ha => by simpa using ha, sb3, ow2.keep f3 fun a ha hb => nd_x n2 a hb ha, nd_r n2⟩, z⟩
theorem LiftI.items {t : TE} {m : TD} (l : Lift Z t m) : LiftI Z (iAny Z.K t) (mItems m) := by
  intro σ H F A s R Rd Re h k
  refine l σ H F A s _ _ Re h fun w s1 v F1 H1 Av A1 h1 o1 => ?_
  obtain ⟨y, s2, F2, A2, ⟨ds, hd, q⟩, o, z⟩ := tv_fz o1 h1
  generalize e : y.frz = d at hd z
  cases z with
  | lst hx zs =>
    cases hd
    exact .inl (.inl ⟨_, rfl, ⟨_, SqL.of (o.sub.lst hx)⟩, k _ _ _ _ _ _ _ q o itd_list ⟨hx, zs⟩⟩)
  | scr hx =>
    cases hd
    exact .inl (.inl ⟨_, rfl, ⟨_, o.sub.sqL hx⟩, k _ _ _ _ _ _ _ q o (itd_scr trivial) hx⟩)
  | tup hx zs =>
    cases hd
    exact .inl (.inr ⟨_, rfl, ⟨_, SqT.of (o.sub.tup hx)⟩, k _ _ _ _ _ _ _ q o itd_tup ⟨SqT.of hx, zs⟩⟩)
  | wtu hx zs =>
    cases hd
    exact .inl (.inr ⟨_, rfl, ⟨_, .inr hx⟩, k _ _ _ _ _ _ _ q o itd_tup ⟨.inr hx, zs⟩⟩)
  | str x =>
    cases hd
    exact .inr ⟨_, rfl, k _ _ _ _ _ _ _ q o itd_str trivial⟩
  | _ => cases hd
theorem di_any {e : Expr} {t : TE} {m : TD} (hK : X.K = Z.K) (h : DE Z X e t m) : DI Z X tg e (iAny Z.K t) (mItems m) := ⟨pi_any hK h.pe, .items h.lf⟩
def mRng1 (m : TDs) : TId := fun s R => m s fun ws s1 => ∃ j : Int, resL s1 ws = some [.int j] ∧ -(2 ^ 62) ≤ j ∧ j < 2 ^ 62 ∧ R (rng 0 j.toNat) s1
def mRng2 (m : TDs) : TId := fun s R => m s fun ws s1 => ∃ i j : Int, resL s1 ws = some [.int i, .int j] ∧ (-(2 ^ 62) ≤ i ∧ i < 2 ^ 62 ∧ -(2 ^ 62) ≤ j ∧ j < 2 ^ 62) ∧ R (rng i (j - i).toNat) s1
def mRng3 (m : TDs) : TId := fun s R => m s fun ws s1 => ∃ (i j c : Int) (n : Nat), resL s1 ws = some [.int i, .int j, .int c] ∧ RgC i j c n ∧ R (rngC i c n) s1
theorem Outs.t {K : PySem.W.Frag} {ws : List W} {vs : List V} (o : Outs K F H A σ ws s1 vs F1 H1 Av A1) : OutT K F H A σ s1 F1 H1 A1 := ⟨o.fr.weak fun a h => List.mem_append_right _ h, o.sub, o.own, nd_r o.nd⟩
theorem OwV.ints : ∀ {vs : List V} {ms : List M} {ds : List D} {is : List Int}, OwV K F H vs ms → ms.map M.frz = ds → ds = is.map D.int → vs = is.map V.int
  | _, _, ds, is, .nil, e, h => by
    subst e
    cases is with
    | nil => rfl
    | cons _ _ => cases h
  | _, _, ds, is, .cons o r, e, h => by
    subst e
    cases is with
    | nil => cases h
    | cons i is =>
      simp only [List.map_cons, List.cons.injEq] at h ⊢
      exact ⟨o.intV h.1, OwV.ints r rfl h.2⟩
theorem LiftI.rng1 {t : TA} {m : TDs} (l : Lifts Z t m) : LiftI Z (iRng1 t) (mRng1 m) := by
  intro σ H F A s R Rd Re h k
  refine l σ H F A s _ _ Re h fun ws s1 vs F1 H1 Av A1 h1 o1 => ?_
  obtain ⟨j, e, h1, h2, q⟩ := h1
  obtain ⟨ms, ov, e2⟩ := o1.wow.res o1.own e
  have := ov.ints e2 (is := [j]) rfl
  subst this
  exact ⟨j, rfl, h1, h2, k _ _ _ _ _ _ _ q o1.t itd_range trivial⟩
theorem di_rng1 {a : Expr} {t : TA} {m : TDs} {p : Pos} (hg : Gl X "range") (hm : X.mg "range" = none) (ha : DA Z X [a] t m) (hs : starEach [a] X.env = [(false, eval a X.env)] := by rfl) : DI Z X tg (.Call (.Name "range" p) [a] [] pos) (iRng1 t) (mRng1 m) := ⟨pi_range1 hg hm ha.pa hs, .rng1 ha.lf⟩
def mFor (mi : TId) (g : TGd) (mb : TSd) : TSd := fun D s => mi s fun ds s1 => ∃ P : Nat → DSt → Prop, P 0 s1 ∧ (∀ (i : Nat) d s, ds[i]? = some d → P i s → g (.fz d) s fun s2 => mb { D with nx := P (i + 1), ct := P (i + 1), bk := D.nx } s2) ∧ ∀ s, P ds.length s → D.nx s
theorem LiftS.for_ {wi : TI} {g : TG} {tb : TS} {mi : TId} {gd : TGd} {mb : TSd} (li : LiftI Z wi mi) (lg : LiftG Z g gd) (lb : LiftS Z tb mb) : LiftS Z (tFor wi g tb) (mFor mi gd mb) := by
  intro σ H F A s D Dd R h e
  refine li σ H F A s _ _ R h fun ds s1 F1 H1 A1 J G h1 o1 it g1 => ?_
  obtain ⟨Pv, p0, hs, hd⟩ := h1
  refine ⟨fun i m σ' H' => m = ds.length - i ∧ i ≤ ds.length ∧ ∃ F' A' s', Pv i s' ∧ OutT Z.K F H A σ' s' F' H' A' ∧ G F', ⟨ds.length, rfl, Nat.zero_le _, F1, A1, s1, p0, o1, g1⟩, ?_⟩
  rintro i m σ' H' ⟨rfl, hi, F', A', s', hp, o, gg⟩
  by_cases hlt : i < ds.length
  · refine .inr ⟨it.go i F' H' o.sub gg hlt, fun σ2 H2 => ∃ F2 A2 s2, Pv (i + 1) s2 ∧ OutT Z.K F H A σ2 s2 F2 H2 A2 ∧ G F2, ?_, ?_⟩
    · rintro σ2 H2 ⟨F2, A2, s2, hp2, o2, g2⟩
      exact ⟨ds.length - (i + 1), by omega, rfl, by omega, F2, A2, s2, hp2, o2, g2⟩
    · intro x H2 hy
      obtain ⟨d, hd'⟩ : ∃ d, ds[i]? = some d := ⟨ds[i], by simp [hlt]⟩
      obtain ⟨F2, f2, sb2, z⟩ := it.yld i F' H' x H2 d o.sub gg hd' hy
      have ow2 : OwS Z.K F2 H2 σ' s' A' := o.own.keep f2 fun a _ h => nomatch h
      have fr2 : Frm F H A F2 H2 A' := (Frm.trans (B := A') (A1 := []) (by simpa using o.fr) f2).weak fun a ha => by simpa using ha
      have gg2 := it.mono F' F2 f2.fsub gg
      refine lg σ' H2 F2 [] A' s' x (.fz d) _ _ sb2 (.fz z) ow2 o.nd (hs i d s' hd' hp) fun σ3 s3 F3 H3 A3 q3 f3 sb3 ow3 nd3 => ?_
      have fr3 : Frm F H A F3 H3 A3 := fr2.trans0 f3
      have gg3 := it.mono F2 F3 f3.fsub gg2
      refine lb σ3 H3 F3 A3 s3 _ _ ⟨sb3, ow3, nd3, R.ex.step fr3⟩ q3 ⟨?_, ?_, ?_, ?_⟩
      · intro σ4 s4 F4 H4 A4 f4 sb4 ow4 nd4 q4
        exact ⟨F4, A4, s4, q4, ⟨fr3.trans0 f4, sb4, ow4, nd4⟩, it.mono F3 F4 f4.fsub gg3⟩
      · intro σ4 s4 F4 H4 A4 f4 sb4 ow4 nd4 q4
        exact e.nx σ4 s4 F4 H4 A4 (fr3.trans0 f4) sb4 ow4 nd4 q4
      · intro σ4 s4 F4 H4 A4 f4 sb4 ow4 nd4 q4
        exact ⟨F4, A4, s4, q4, ⟨fr3.trans0 f4, sb4, ow4, nd4⟩, it.mono F3 F4 f4.fsub gg3⟩
      · intro v m4 σ4 s4 F4 H4 Av A4 f4 sb4 wv ow4 nd4 q4
        exact e.rt v m4 σ4 s4 F4 H4 Av A4 (fr3.trans0 f4) sb4 wv ow4 nd4 q4
  · have hi' : i = ds.length := by omega
    subst hi'
    exact .inl ⟨it.stop F' H' o.sub gg, e.nx σ' s' F' H' A' o.fr o.sub o.own o.nd (hd s' hp)⟩
theorem ds_for {iter : Expr} {body : List Stmt} {wi : TI} {g : TG} {tb : TS} {mi : TId} {gd : TGd} {mb : TSd} (hp : PassesOwn (model X.prog X.w) X.A X.env X.xe) (hc : X.calm = true) (hi : DI Z X tg iter wi mi) (hg : DG Z X tg g gd) (hb : DSs Z X body tb mb) (hs : ∀ x, foldedSetIterable iter X.env x = pure x := by intro _; rfl) : DS Z X (.For tg iter body [] pos) (tFor wi g tb) (mFor mi gd mb) :=
  ⟨ps_for hp hc hi.pi hg.pg hb.ps hs, .for_ hi.lf hg.lf hb.lf⟩
def mWhile (c : TTd) (mb : TSd) : TSd := fun D s => ∃ P : Nat → DSt → Prop, (∃ n, P n s) ∧ ∀ n s, P n s → c s fun b s1 => if b = true then mb { D with nx := fun s' => ∃ n', n' < n ∧ P n' s', ct := fun s' => ∃ n', n' < n ∧ P n' s', bk := D.nx } s1 else D.nx s1
end
end DL
namespace DL
open PySem PySem.Spec L2
section
variable {Z : ZX} {X : Cx} {K : PySem.W.Frag} {F H F1 H1 F2 H2 F3 H3 F' H' : Hp} {A A1 A2 A' Av B : List Addr} {σ σ2 : L2.St} {s s0 s1 s2 : DSt} {v : V} {w : W} {pos : Pos} {tg : Expr}
def wipeD (s : DSt) : List Nat → DSt
  | [] => s
  | v :: vs => (wipeD s vs).set v .un
def Slot.free : Slot → Bool
  | .un => true
  | .v (.fz _) => true
  | _ => false
def freeAt (s : DSt) (vs : List Nat) : Bool := vs.all fun i => match s[i]? with
  | some sl => sl.free
  | none => true
def unw (s0 s : DSt) : List Nat → DSt
  | [] => s
  | v :: vs => (unw s0 s vs).set v (s0[v]?.getD .un)
theorem OwS.put : ∀ {σ : L2.St} {s : DSt} {A : List Addr} (i : Nat) {xo : Option V} {sl : Slot}, OwS K F H σ s A → (sl = .un ∨ ∃ x d, xo = some x ∧ sl = .v (.fz d) ∧ Fz K F x d) → ∃ A', OwS K F H (σ.set i xo) (s.set i sl) A' ∧ (∀ a ∈ A', a ∈ A) ∧ (A.Nodup → A'.Nodup)
  | _, _, _, i, _, _, .nil, h => ⟨[], .nil, fun _ h => h, fun h => h⟩
  | _, _, _, 0, _, _, .un (A := A2) r, h => by
    rcases h with rfl | ⟨x, d, rfl, rfl, z⟩
    · exact ⟨A2, .un r, fun _ h => h, fun h => h⟩
    · exact ⟨A2, by simpa using OwS.v (.fz z) r, fun _ h => h, fun h => h⟩
  | _, _, _, 0, _, _, .v (A1 := A1) (A2 := A2) w r, h => by
    rcases h with rfl | ⟨x, d, rfl, rfl, z⟩
    · exact ⟨A2, .un r, fun _ h => List.mem_append_right _ h, fun h => nd_r h⟩
    · exact ⟨A2, by simpa using OwS.v (.fz z) r, fun _ h => List.mem_append_right _ h, fun h => nd_r h⟩
  | _, _, _, 0, _, _, .p (A1 := A1) (A2 := A2) w r, h => by
    rcases h with rfl | ⟨x, d, rfl, rfl, z⟩
    · exact ⟨A2, .un r, fun _ h => List.mem_append_right _ h, fun h => nd_r h⟩
    · exact ⟨A2, by simpa using OwS.v (.fz z) r, fun _ h => List.mem_append_right _ h, fun h => nd_r h⟩
  | _, _, _, i + 1, _, _, .un r, h => by
    obtain ⟨A', k, h1, h2⟩ := OwS.put i r h
    exact ⟨A', .un k, h1, h2⟩
  | _, _, _, i + 1, _, _, .v (A1 := A1) w r, h => by
    obtain ⟨A', k, h1, h2⟩ := OwS.put i r h
    exact ⟨A1 ++ A', .v w k, fun a h => (List.mem_append.mp h).elim (List.mem_append_left _) fun q => List.mem_append_right _ (h1 a q), fun h => nd_mk (nd_l h) (h2 (nd_r h)) fun a ha hb => nd_x h a ha (h1 a hb)⟩
  | _, _, _, i + 1, _, _, .p (A1 := A1) w r, h => by
    obtain ⟨A', k, h1, h2⟩ := OwS.put i r h
    exact ⟨A1 ++ A', .p w k, fun a h => (List.mem_append.mp h).elim (List.mem_append_left _) fun q => List.mem_append_right _ (h1 a q), fun h => nd_mk (nd_l h) (h2 (nd_r h)) fun a ha hb => nd_x h a ha (h1 a hb)⟩
theorem OwS.wipe (o : OwS K F H σ s A) : ∀ vs : List Nat, ∃ A', OwS K F H (L2.wipe σ vs) (wipeD s vs) A' ∧ (∀ a ∈ A', a ∈ A) ∧ (A.Nodup → A'.Nodup)
  | [] => ⟨A, o, fun _ h => h, fun h => h⟩
  | j :: vs => by
    obtain ⟨A1, o1, h1, n1⟩ := o.wipe vs
    obtain ⟨A2, o2, h2, n2⟩ := o1.put j (xo := none) (sl := .un) (.inl rfl)
    exact ⟨A2, o2, fun a h => h1 a (h2 a h), fun h => n2 (n1 h)⟩
def unwS (σ0 σ : L2.St) : List Nat → L2.St
  | [] => σ
  | v :: vs => (unwS σ0 σ vs).set v (σ0[v]?.getD none)
theorem unwS_length (σ0 : L2.St) : ∀ vs : List Nat, (unwS σ0 σ vs).length = σ.length
  | [] => rfl
  | v :: vs => by rw [unwS, List.length_set, unwS_length]
theorem unwS_get (σ0 : L2.St) (hl : σ0.length = σ.length) : ∀ (vs : List Nat) (j : Nat), (unwS σ0 σ vs)[j]? = if j ∈ vs then σ0[j]? else σ[j]?
  | [], j => by simp [unwS]
  | v :: vs, j => by
    rw [unwS, List.getElem?_set]
    by_cases e : v = j
    · subst e
      simp only [if_true, List.mem_cons, true_or]
      rw [unwS_length]
      by_cases hlt : v < σ.length
      · rw [if_pos hlt]
        have : v < σ0.length := by omega
        simp [this]
      · rw [if_neg hlt]
        have : ¬ v < σ0.length := by omega
        simp [List.getElem?_eq_none (Nat.le_of_not_lt this)]
    · rw [if_neg e, unwS_get σ0 hl vs j]
      have : j ∈ v :: vs ↔ j ∈ vs := by
        constructor
        · intro h; cases h with
          | head => exact absurd rfl e
          | tail _ h => exact h
        · exact List.mem_cons_of_mem _
      by_cases hj : j ∈ vs
      · rw [if_pos hj, if_pos (this.mpr hj)]
      · rw [if_neg hj, if_neg (fun q => hj (this.mp q))]
theorem unwS_eq {σ0 σ : L2.St} {vs : List Nat} (h : L2.wipe σ vs = L2.wipe σ0 vs) : unwS σ0 σ vs = σ0 := by
  have hl : σ0.length = σ.length := by
    have := congrArg List.length h
    rw [wipe_length, wipe_length] at this
    exact this.symm
  refine List.ext_getElem? fun j => ?_
  rw [unwS_get σ0 hl]
  by_cases hj : j ∈ vs
  · rw [if_pos hj]
  · rw [if_neg hj, ← wipe_out hj, ← wipe_out (σ := σ0) hj, h]
theorem freeAt_at {i : Nat} {vs : List Nat} (h : freeAt s vs = true) (hi : i ∈ vs) : ∀ sl, s[i]? = some sl → sl.free = true := fun sl e => by
  have := List.all_eq_true.mp h i hi
  simp only [e] at this
  exact this
theorem OwS.unw (o : OwS K F H σ s A) {σ0 : L2.St} (o0 : OwS K F1 H1 σ0 s0 A1) (hF : ∀ a u, F1 a = some u → F a = some u) : ∀ vs : List Nat, freeAt s0 vs = true → ∃ A', OwS K F H (unwS σ0 σ vs) (DL.unw s0 s vs) A' ∧ (∀ a ∈ A', a ∈ A) ∧ (A.Nodup → A'.Nodup)
  | [], _ => ⟨A, o, fun _ h => h, fun h => h⟩
  | j :: vs, h => by
    have hv : freeAt s0 vs = true := by
      unfold freeAt at h ⊢
      rw [List.all_cons, Bool.and_eq_true] at h
      exact h.2
    obtain ⟨A2, o2, h2, n2⟩ := OwS.unw o o0 hF vs hv
    have key : (s0[j]?.getD .un = .un) ∨ ∃ x d, σ0[j]?.getD none = some x ∧ s0[j]?.getD .un = .v (.fz d) ∧ Fz K F x d := by
      cases e : s0[j]? with
      | none => exact .inl rfl
      | some sl =>
        have hf := freeAt_at h List.mem_cons_self sl e
        cases sl with
        | un => exact .inl rfl
        | p x m => cases hf
        | v m =>
          cases m with
          | fz d =>
            obtain ⟨x, C, ex, ow, _⟩ := o0.get e rfl
            cases ow with
            | fz z => exact .inr ⟨x, d, by simp [ex], rfl, z.mono (Sub.of hF)⟩
          | ml _ => cases hf
          | md _ => cases hf
          | mt _ => cases hf
          | mo _ _ => cases hf
    obtain ⟨A3, o3, h3, n3⟩ := o2.put j key
    exact ⟨A3, o3, fun a h => h2 a (h3 a h), fun h => n3 (n2 h)⟩
def GOnly (g : TG) (vs : List Nat) : Prop := ∀ v σ H Q, g v σ H Q → g v σ H fun σ2 H2 => L2.wipe σ2 vs = L2.wipe σ vs ∧ Q σ2 H2
def GOnlys (g : TGs) (vs : List Nat) : Prop := ∀ v σ H Q, g v σ H Q → g v σ H fun σ2 H2 => L2.wipe σ2 vs = L2.wipe σ vs ∧ Q σ2 H2
theorem wipe_get : ∀ (vs : List Nat) (j : Nat), (L2.wipe σ vs)[j]? = if j ∈ vs then (σ[j]?.map fun _ => none) else σ[j]?
  | [], j => by simp [L2.wipe]
  | v :: vs, j => by
    rw [L2.wipe, List.getElem?_set]
    by_cases e : v = j
    · subst e
      simp only [if_true, List.mem_cons, true_or]
      rw [wipe_length]
      by_cases hlt : v < σ.length
      · rw [if_pos hlt]; simp [hlt]
      · rw [if_neg hlt]; simp [List.getElem?_eq_none (Nat.le_of_not_lt hlt)]
    · rw [if_neg e, wipe_get vs j]
      have : j ∈ v :: vs ↔ j ∈ vs := by
        constructor
        · intro h; cases h with
          | head => exact absurd rfl e
          | tail _ h => exact h
        · exact List.mem_cons_of_mem _
      by_cases hj : j ∈ vs
      · rw [if_pos hj, if_pos (this.mpr hj)]
      · rw [if_neg hj, if_neg (fun q => hj (this.mp q))]
theorem GOnly.name {i : Nat} {vs : List Nat} (h : i ∈ vs) : GOnly (gName i) vs := fun v σ H Q q => ⟨by
  refine List.ext_getElem? fun j => ?_
  rw [wipe_get, wipe_get]
  by_cases hj : j ∈ vs
  · rw [if_pos hj, if_pos hj, List.getElem?_set]
    by_cases e : i = j
    · subst e
      by_cases hlt : i < σ.length <;> simp [hlt]
    · rw [if_neg e]
  · rw [if_neg hj, if_neg hj, List.getElem?_set, if_neg (fun e => hj (by rw [← e]; exact h))], q⟩
theorem GOnlys.nil {vs : List Nat} : GOnlys gNil vs := fun v σ H Q q => ⟨q.1, rfl, q.2⟩
def GMono (g : TG) : Prop := ∀ v σ H Q Q', (∀ σ H, Q σ H → Q' σ H) → g v σ H Q → g v σ H Q'
def GMonos (g : TGs) : Prop := ∀ v σ H Q Q', (∀ σ H, Q σ H → Q' σ H) → g v σ H Q → g v σ H Q'
theorem GMono.name {i : Nat} : GMono (gName i) := fun _ _ _ _ _ h q => h _ _ q
theorem GMonos.nil : GMonos gNil := fun _ _ _ _ _ h q => ⟨q.1, h _ _ q.2⟩
theorem GMonos.cons {t : TG} {u : TGs} (ht : GMono t) (hu : GMonos u) : GMonos (gCons t u) := fun vs σ H Q Q' h q => by
  obtain ⟨v, r, e, q⟩ := q
  exact ⟨v, r, e, ht v σ H _ _ (fun σ H q => hu r σ H _ _ h q) q⟩
theorem GMono.tup {K : PySem.W.Frag} {n : Nat} {t : TGs} (h : GMonos t) : GMono (gTup K n t) := fun v σ H Q Q' hq q => by
  obtain ⟨a, xs, e, hs, hl, q⟩ := q
  exact ⟨a, xs, e, hs, hl, h xs σ H _ _ hq q⟩
theorem GOnlys.cons {t : TG} {u : TGs} {vs : List Nat} (mt : GMono t) (mu : GMonos u) (ht : GOnly t vs) (hu : GOnlys u vs) : GOnlys (gCons t u) vs := fun xs σ H Q q => by
  obtain ⟨v, r, e, q⟩ := q
  refine ⟨v, r, e, mt v σ H _ _ (fun σ2 H2 h => ?_) (ht v σ H _ q)⟩
  exact mu r σ2 H2 _ _ (fun σ3 H3 h3 => ⟨h3.1.trans h.1, h3.2⟩) (hu r σ2 H2 _ h.2)
theorem GOnly.tup {K : PySem.W.Frag} {n : Nat} {t : TGs} {vs : List Nat} (h : GOnlys t vs) : GOnly (gTup K n t) vs := fun v σ H Q q => by
  obtain ⟨a, xs, e, hs, hl, q⟩ := q
  exact ⟨a, xs, e, hs, hl, h xs σ H _ q⟩
abbrev noxZ (Z : ZX) : ZX := ⟨Z.K, fun _ _ _ _ => False, fun _ _ _ => False, Z.T⟩
theorem nox_ex (t : TbF Z.T F) : ExImp (noxZ Z) F H A := ⟨t, fun _ _ _ _ _ _ _ _ _ _ _ _ _ h => h⟩
theorem takes_blk {Y : Cx} : Takes Y (noxZ Z).W := takes0
structure DTs (Z : ZX) (X : Cx) (ifs : List Expr) (t : TT) (m : TTd) : Prop where
  pt : PTs X ifs t
  lf : LiftT Z t m
def mYes : TTd := fun s Q => Q true s
theorem dts_nil : DTs Z X [] tYes mYes := ⟨pts_nil, fun σ H F A s Q Qd R h k => k _ _ _ _ _ h ⟨Frm.refl, R.sub, R.own, R.nd⟩⟩
def mLc (mi : TId) (g : TGd) (mt : TTd) (me : TD) (vs : List Nat) : TD := fun s Q => mi s fun ds s1 => ∃ P : Nat → List D → DSt → Prop, P 0 [] s1 ∧
  (∀ (i : Nat) d acc s, ds[i]? = some d → P i acc s → freeAt s vs = true ∧ g (.fz d) (wipeD s vs) fun s2 => mt s2 fun b s3 =>
    if b = true then me s3 fun w s4 => tv w s4 fun y s5 => acc.length < sizeLine ∧ P (i + 1) (acc ++ [y.frz]) (unw s s5 vs) else P (i + 1) acc (unw s s3 vs)) ∧
  ∀ acc s, P ds.length acc s → Q (.val (.ml acc)) s
theorem Lift.lc {wi : TI} {g : TG} {tt : TT} {te : TE} {mi : TId} {gd : TGd} {mt : TTd} {me : TD} {vs : List Nat} (go : GOnly g vs) (gm : GMono g) (li : LiftI Z wi mi) (lg : LiftG (noxZ Z) g gd) (lt : LiftT (noxZ Z) tt mt) (le : Lift (noxZ Z) te me) : Lift Z (tLc wi g tt te vs) (mLc mi gd mt me vs) := by
  intro σ H F A s Q Qd R h k
  refine li σ H F A s _ _ R h fun ds s1 F1 H1 A1 J G h1 o1 it g1 => ?_
  obtain ⟨Pv, p0, hs, hd⟩ := h1
  intro Dn hDn
  have new := new_lst (K := Z.K) o1.sub hDn (.nil : Fzs Z.K F1 [] [])
  obtain ⟨gn, sbn, own⟩ := new
  have f0 : Frm F H A F1 H1 ([] ++ A1) := by simpa using o1.fr
  have q0 := Out.fin (σ := σ) f0 o1.own (by simpa using o1.nd) gn sbn own (by simp)
  refine ⟨fun i m H' => m = ds.length - i ∧ i ≤ ds.length ∧ ∃ F' A' s' acc, Pv i acc s' ∧ Out Z.K F H A σ (.val (.ml acc)) s' (.ref Dn) F' H' [Dn] A' ∧ G F', ⟨ds.length, rfl, Nat.zero_le _, F1, A1, s1, [], p0, q0, g1⟩, ?_⟩
  rintro i m H' ⟨rfl, hi, F', A', s', acc, hp, o, gg⟩
  by_cases hlt : i < ds.length
  · refine .inr ⟨it.go i F' H' o.sub gg hlt, fun H2 => ∃ F2 A2 s2 acc, Pv (i + 1) acc s2 ∧ Out Z.K F H A σ (.val (.ml acc)) s2 (.ref Dn) F2 H2 [Dn] A2 ∧ G F2, ?_, ?_⟩
    · rintro H2 ⟨F2, A2, s2, acc2, hp2, o2, g2⟩
      exact ⟨ds.length - (i + 1), by omega, rfl, by omega, F2, A2, s2, acc2, hp2, o2, g2⟩
    · intro x H2 hy
      obtain ⟨d, hd'⟩ : ∃ d, ds[i]? = some d := ⟨ds[i], by simp [hlt]⟩
      obtain ⟨F2, f2, sb2, z⟩ := it.yld i F' H' x H2 d o.sub gg hd' hy
      obtain ⟨hfree, hg⟩ := hs i d acc s' hd' hp
      have ow2 : OwS Z.K F2 H2 σ s' A' := o.own.keep f2 fun a _ h => nomatch h
      obtain ⟨Ab, owb, hb1, hb2⟩ := ow2.wipe vs
      have ndA := nd_r o.nd
      have fb : Frm F' H' A' F2 H2 Ab := f2.more (fun a q => nomatch q) (fun a ha => .inl (hb1 a ha))
      have gg2 := it.mono F' F2 f2.fsub gg
      -- the end of a turn: the block's state is left
      have leave : ∀ (σ3 : L2.St) (s5 : DSt) (F5 H5 : Hp) (A5 : List Addr), L2.wipe σ3 vs = L2.wipe σ vs → Frm F2 H2 Ab F5 H5 A5 → Sub F5 H5 → OwS Z.K F5 H5 σ3 s5 A5 → A5.Nodup →
          ∃ A6, Out Z.K F H A σ (.val (.ml acc)) (DL.unw s' s5 vs) (.ref Dn) F5 H5 [Dn] A6 := by
        intro σ3 s5 F5 H5 A5 hw f5 sb5 ow5 nd5
        obtain ⟨A6, ow6, h6, n6⟩ := OwS.unw ow5 ow2 f5.fsub vs hfree
        rw [unwS_eq hw] at ow6
        have f25 : Frm F' H' A' F5 H5 A6 := (fb.trans0 f5).weak h6
        have fr : Frm F H A F5 H5 ([Dn] ++ A6) := Frm.trans (B := [Dn]) o.fr f25
        have hx : ∀ a ∈ [Dn], a ∉ A' := nd_x o.nd
        refine ⟨A6, fr, sb5, o.wow.keep f25 hx, ow6, nd_mk (by simp) (n6 nd5) (apart (fun a h => (o.wow.out a h).2) hx f25)⟩
      have idem : L2.wipe (L2.wipe σ vs) vs = L2.wipe σ vs := by
        refine List.ext_getElem? fun j => ?_
        rw [wipe_get, wipe_get]
        by_cases hj : j ∈ vs
        · rw [if_pos hj, if_pos hj]; cases e : σ[j]? <;> simp
        · rw [if_neg hj, if_neg hj]
      refine gm x (L2.wipe σ vs) H2 _ _ (fun σ3 H3 q => ⟨q.1.trans idem, q.2 (q.1.trans idem)⟩) (go x (L2.wipe σ vs) H2 (fun σ3 H3 => L2.wipe σ3 vs = L2.wipe σ vs → _) (lg (L2.wipe σ vs) H2 F2 [] Ab (wipeD s' vs) x (.fz d) _ _ sb2 (.fz z) owb (by simpa using hb2 ndA) hg ?_))
      intro σ3 s3 F3 H3 A3 q3 f3 sb3 ow3 nd3 hw
      refine lt σ3 H3 F3 A3 s3 _ _ ⟨sb3, ow3, nd3, nox_ex (Z := Z) (((R.ex.tb.frm o.fr).frm f2).frm f3)⟩ q3 fun b s4 F4 H4 A4 q4 o4 => ?_
      have f4 : Frm F2 H2 Ab F4 H4 A4 := Frm.trans0 (A1 := A3) (by simpa using f3) o4.fr
      have gg4 := it.mono F2 F4 f4.fsub gg2
      cases b with
      | false =>
        rw [if_neg Bool.false_ne_true] at q4 ⊢
        obtain ⟨A6, o6⟩ := leave σ3 s4 F4 H4 A4 hw f4 o4.sub o4.own o4.nd
        exact ⟨F4, A6, _, acc, q4, o6, gg4⟩
      | true =>
        rw [if_pos rfl] at q4 ⊢
        refine le σ3 H4 F4 A4 s4 _ _ ⟨o4.sub, o4.own, o4.nd, nox_ex (Z := Z) ((((R.ex.tb.frm o.fr).frm f2).frm f3).frm o4.fr)⟩ q4 fun w s5 y F5 H5 Av5 A5 q5 o5 => ?_
        obtain ⟨m, s6, F6, A6, ⟨hl, q6⟩, o6, zy⟩ := tv_fz o5 q5
        have f6 : Frm F2 H2 Ab F6 H5 A6 := f4.trans0 o6.fr
        obtain ⟨A7, o7⟩ := leave σ3 s6 F6 H5 A6 hw f6 o6.sub o6.own o6.nd
        have gg6 := it.mono F2 F6 f6.fsub gg2
        have w7 := o7.wow
        cases w7 with
        | val ow7 =>
          cases ow7 with
          | ml nF hH zs =>
            rename_i accV
            have hx7 := nd_x o7.nd
            have lacc := zs.length
            refine ⟨accV, hH, by omega, F6, A7, _, acc ++ [m.frz], q6, ?_, gg6⟩
            -- the list has grown
            have g8 : Frm F6 H5 [Dn] F6 (upd H5 Dn (.lst (accV ++ [y]))) [Dn] := Frm.upd hH trivial
            have sb8 : Sub F6 (upd H5 Dn (.lst (accV ++ [y]))) := o7.sub.upd nF (.inr ⟨_, hH, trivial⟩)
            have ow8 : OwS Z.K F6 (upd H5 Dn (.lst (accV ++ [y]))) σ (DL.unw s' s6 vs) A7 := o7.own.keep g8 fun a ha hb => hx7 a hb ha
            refine ⟨?_, sb8, .val (.ml nF upd_same (zs.append (.cons zy .nil))), ow8, o7.nd⟩
            have f7 : Frm F H A F6 H5 (A7 ++ [Dn]) := o7.fr.weak fun a ha => (List.mem_append.mp ha).elim (List.mem_append_right _) (List.mem_append_left _)
            exact (Frm.trans (B := A7) f7 g8).weak fun a ha => (List.mem_append.mp ha).elim (List.mem_append_right _) (List.mem_append_left _)
  · have hi' : i = ds.length := by omega
    subst hi'
    exact .inl ⟨it.stop F' H' o.sub gg, k _ _ _ _ _ _ _ (hd acc s' hp) o⟩
theorem de_lc {elt iter : Expr} {ifs : List Expr} {scope : Scope} {own : List (Str × Nat)} {wi : TI} {g : TG} {tt : TT} {te : TE} {mi : TId} {gd : TGd} {mt : TTd} {me : TD} (hc : X.calm = true) (hN : X.N.Nodup) (hi : DI Z X tg iter wi mi) (ok : BlkOk X.N X.env.scope scope own) (go : GOnly g (own.map (·.2))) (gm : GMono g)
    (hg : ∀ (s : Shared) (H : Hp) (C : Addr) (cl : List (Str × Addr)) (fp : List Addr), DG (noxZ Z) (X.blk s H scope (compEnvC scope cl C X.env) fp) tg g gd)
    (ht : ∀ (s : Shared) (H : Hp) (C : Addr) (cl : List (Str × Addr)) (fp : List Addr), DTs (noxZ Z) (X.blk s H scope (compEnvC scope cl C X.env) fp) ifs tt mt)
    (he : ∀ (s : Shared) (H : Hp) (C : Addr) (cl : List (Str × Addr)) (fp : List Addr), DE (noxZ Z) (X.blk s H scope (compEnvC scope cl C X.env) fp) elt te me)
    (hs : ∀ x, foldedSetIterable iter X.env x = pure x := by intro _; rfl) : DE Z X (.ListComp elt [⟨tg, iter, ifs, 0⟩] scope pos) (tLc wi g tt te (own.map (·.2))) (mLc mi gd mt me (own.map (·.2))) :=
  ⟨pe_lc hc hN hi.pi ok (fun s H C cl fp => (hg s H C cl fp).pg) (fun s H C cl fp => (ht s H C cl fp).pt) (fun s H C cl fp => (he s H C cl fp).pe) hs,
    .lc go gm hi.lf (hg {} (fun _ => none) 0 [] []).lf (ht {} (fun _ => none) 0 [] []).lf (he {} (fun _ => none) 0 [] []).lf⟩
theorem ds_setLc {i : Nat} {y : Str} {py spos : Pos} {elt iter : Expr} {ifs : List Expr} {scope : Scope} {own : List (Str × Nat)} {wi : TI} {g : TG} {tt : TT} {te : TE} {mi : TId} {gd : TGd} {mt : TTd} {me : TD} (hc : X.calm = true) (hN : X.N.Nodup) (hy : X.N[i]? = some y) (hyl : X.env.scope.names.lookup y = some .local) (hsw : swapsWith (.ListComp elt [⟨tg, iter, ifs, 0⟩] scope pos) (some (.Name y py)) spos.line X.env = pure true) (hi : DI Z X tg iter wi mi) (ok : BlkOk X.N X.env.scope scope own) (go : GOnly g (own.map (·.2))) (gm : GMono g)
    (hg : ∀ (s : Shared) (H : Hp) (C : Addr) (cl : List (Str × Addr)) (fp : List Addr), DG (noxZ Z) (X.blk s H scope (compEnvC scope cl C X.env) fp) tg g gd)
    (ht : ∀ (s : Shared) (H : Hp) (C : Addr) (cl : List (Str × Addr)) (fp : List Addr), DTs (noxZ Z) (X.blk s H scope (compEnvC scope cl C X.env) fp) ifs tt mt)
    (he : ∀ (s : Shared) (H : Hp) (C : Addr) (cl : List (Str × Addr)) (fp : List Addr), DE (noxZ Z) (X.blk s H scope (compEnvC scope cl C X.env) fp) elt te me)
    (hs : ∀ x, foldedSetIterable iter X.env x = pure x := by intro _; rfl) : DS Z X (.Assign [.Name y py] (.ListComp elt [⟨tg, iter, ifs, 0⟩] scope pos) spos) (tAsg (tLc wi g tt te (own.map (·.2))) (gName i)) (mAsg (mLc mi gd mt me (own.map (·.2))) (gNm i)) :=
  ⟨ps_setLc hc hN hy hyl hsw hi.pi ok (fun s H C cl fp => (hg s H C cl fp).pg) (fun s H C cl fp => (ht s H C cl fp).pt) (fun s H C cl fp => (he s H C cl fp).pe) hs,
    .asg (.lc go gm hi.lf (hg {} (fun _ => none) 0 [] []).lf (ht {} (fun _ => none) 0 [] []).lf (he {} (fun _ => none) 0 [] []).lf) .name⟩
end
end DL
namespace DL
open PySem PySem.Spec L2
section
variable {Z : ZX} {X : Cx} {K : PySem.W.Frag} {F H F1 H1 F2 H2 F3 H3 F' H' : Hp} {A A1 A2 A' Av B : List Addr} {σ : L2.St} {s s1 s2 : DSt} {v : V} {w : W} {pos : Pos} {tg : Expr}
def f1 (f : D → M → Prop) : List D → M → Prop
  | [d], z => f d z
  | _, _ => False
theorem CallD.one {r : List V → Hp → VK → Prop} {f : D → M → Prop} (h : ∀ (F H : Hp) (x : V) (m : M) (B : List Addr) (z : M) (Q : VK), Sub F H → Ow K F H x m B → f m.frz z → (∀ v F' H' Av, Frm F H [] F' H' Av → Sub F' H' → Ow K F' H' v z Av → Av.Nodup → Q v H') → r [x] H Q) : CallD K r (f1 f) := by
  intro F H xs ms z Q sb ov hz k
  cases ov with
  | nil => exact hz.elim
  | cons a t =>
    cases t with
    | nil => exact h F H _ _ _ z Q sb a hz k
    | cons _ _ => exact hz.elim
theorem call_lenR : CallR X (.builtin "len") (fun xs H Q => ∃ a kvs, xs = [V.ref a] ∧ Rd H a (.dK kvs) ∧ Q (.int kvs.length) H) := by
  intro pins s σ H xs us Q I r h
  obtain ⟨a, kvs, rfl, e, q⟩ := h
  rw [Vals.ref1 r]
  exact d_len I e fun t s' I' => ⟨.int _, H, I', ⟨_, rfl⟩, q⟩
def rLen (K : PySem.W.Frag) : List V → Hp → VK → Prop := fun xs H Q => ((∃ p ys, xs = [.ref p] ∧ (SqL K H p ys ∨ SqT K H p ys) ∧ Q (.int ys.length) H) ∨ (∃ z, xs = [.str z] ∧ z.length ≤ sizeLine ∧ Q (.int z.length) H)) ∨ ∃ a kvs, xs = [V.ref a] ∧ Rd H a (.dK kvs) ∧ Q (.int kvs.length) H
theorem call_lenA (hK : X.K = K) : CallR X (.builtin "len") (rLen K) := by
  subst hK
  exact CallR.or (CallR.or call_len_seq call_len_str) call_lenR
def dLen : D → M → Prop
  | .lst ds, z => z = .fz (.int ds.length)
  | .tup ds, z => z = .fz (.int ds.length)
  | .wtu ds, z => z = .fz (.int ds.length)
  | .scr ns, z => z = .fz (.int ns.length)
  | .str x, z => x.length ≤ sizeLine ∧ z = .fz (.int x.length)
  | .dic ds, z => z = .fz (.int ds.length)
  | _, _ => False
theorem cd_len : CallD K (rLen K) (f1 dLen) := CallD.one fun F H x m B z Q sb w hz k => by
  have zv := w.view sb
  generalize m.frz = d at hz zv
  have fin : ∀ n : Int, z = .fz (.int n) → Q (.int n) H := fun n e => by subst e; exact k _ F H [] Frm.refl sb (.fz (.int n)) List.nodup_nil
  cases zv with
  | lst h r => exact .inl (.inl ⟨_, _, rfl, .inl (SqL.of h), fin _ (by rw [r.length]; exact hz)⟩)
  | tup h r => exact .inl (.inl ⟨_, _, rfl, .inr (SqT.of h), fin _ (by rw [r.length]; exact hz)⟩)
  | wtu h r => exact .inl (.inl ⟨_, _, rfl, .inr (.inr h), fin _ (by rw [r.length]; exact hz)⟩)
  | scr h => exact .inl (.inl ⟨_, _, rfl, .inl h, fin _ (by rw [List.length_map]; exact hz)⟩)
  | str x => exact .inl (.inr ⟨x, rfl, hz.1, fin _ hz.2⟩)
  | dic h r => exact .inr ⟨_, _, rfl, h, fin _ (by rw [r.length]; exact hz)⟩
  | _ => exact hz.elim
def dAbs : D → M → Prop
  | .int i, z => z = .fz (.int (if i < 0 then -i else i))
  | _, _ => False
def rInt : List V → Hp → VK → Prop := fun xs H Q => ((∃ i, xs = [.int i] ∧ Q (.int i) H) ∨ ∃ k, xs = [.bl k] ∧ Q (.int (if k then 1 else 0)) H) ∨ ∃ a n, xs = [.str a] ∧ PySem.intText? a = some n ∧ a.length ≤ 640 ∧ Q (.int n) H
theorem call_intA : CallR X (.type "int") rInt := CallR.or call_int1 call_int_str
def dInt : D → M → Prop
  | .int i, z => z = .fz (.int i)
  | .bl b, z => z = .fz (.int (if b then 1 else 0))
  | .str a, z => a.length ≤ 640 ∧ ∃ n, PySem.intText? a = some n ∧ z = .fz (.int n)
  | _, _ => False
theorem cd_int : CallD K rInt (f1 dInt) := CallD.one fun F H x m B z Q sb w hz k => by
  have zv := w.view sb
  generalize m.frz = d at hz zv
  have fin : ∀ n : Int, z = .fz (.int n) → Q (.int n) H := fun n e => by subst e; exact k _ F H [] Frm.refl sb (.fz (.int n)) List.nodup_nil
  cases zv with
  | int i => exact .inl (.inl ⟨i, rfl, fin _ hz⟩)
  | bl b => exact .inl (.inr ⟨b, rfl, fin _ hz⟩)
  | str a => obtain ⟨h1, n, h2, h3⟩ := hz; exact .inr ⟨a, n, rfl, h2, h1, fin _ h3⟩
  | _ => exact hz.elim
def dStr : D → M → Prop
  | .int i, z => i.natAbs.log2 < 1920 ∧ z = .fz (.str (toString i))
  | _, _ => False
theorem cd_str : CallD K (fun xs H Q => ∃ i, xs = [.int i] ∧ i.natAbs.log2 < 1920 ∧ Q (.str (toString i)) H) (f1 dStr) := CallD.one fun F H x m B z Q sb w hz k => by
  have zv := w.view sb
  generalize m.frz = d at hz zv
  cases zv with
  | int i => obtain ⟨h1, rfl⟩ := hz; exact ⟨i, rfl, h1, k _ F H [] Frm.refl sb (.fz (.str _)) List.nodup_nil⟩
  | _ => exact hz.elim
def D.seqs : D → Option (List D)
  | .lst ds => some ds
  | .tup ds => some ds
  | .wtu ds => some ds
  | .scr ns => some (ns.map D.int)
  | _ => none
theorem Fzs.ints : ∀ {ns : List Int}, Fzs K F (ns.map V.int) (ns.map D.int)
  | [] => .nil
  | n :: ns => .cons (.int n) Fzs.ints
theorem Ow.seqV {x : V} {m : M} {ds : List D} (sb : Sub F H) (w : Ow K F H x m B) (e : m.frz.seqs = some ds) : ∃ a xs, x = .ref a ∧ (SqL K H a xs ∨ SqT K H a xs) ∧ Fzs K F xs ds ∧ ((∃ es, m.frz = .tup es) ∨ (∃ es, m.frz = .wtu es) → SqT K H a xs ∧ Fz K F x m.frz) ∧ ((∃ es, m.frz = .lst es) ∨ (∃ es, m.frz = .scr es) → SqL K H a xs) := by
  cases w with
  | fz z =>
    cases id z with
    | lst h r => cases e; exact ⟨_, _, rfl, .inl (SqL.of (sb.lst h)), r, (fun q => by rcases q with ⟨_, q⟩ | ⟨_, q⟩ <;> cases q), fun _ => SqL.of (sb.lst h)⟩
    | tup h r => cases e; exact ⟨_, _, rfl, .inr (SqT.of (sb.tup h)), r, (fun _ => ⟨SqT.of (sb.tup h), z⟩), (fun q => by rcases q with ⟨_, q⟩ | ⟨_, q⟩ <;> cases q)⟩
    | wtu h r => cases e; exact ⟨_, _, rfl, .inr (.inr h), r, (fun _ => ⟨.inr h, z⟩), (fun q => by rcases q with ⟨_, q⟩ | ⟨_, q⟩ <;> cases q)⟩
    | scr h => cases e; exact ⟨_, _, rfl, .inl (sb.sqL h), Fzs.ints, (fun q => by rcases q with ⟨_, q⟩ | ⟨_, q⟩ <;> cases q), fun _ => sb.sqL h⟩
    | _ => cases e
  | ml n h r => cases e; exact ⟨_, _, rfl, .inl (SqL.of h), r, (fun q => by rcases q with ⟨_, q⟩ | ⟨_, q⟩ <;> cases q), fun _ => SqL.of h⟩
  | md n h r => cases e
  | mt n h r => cases e
  | mo n h r => cases e
def dList : D → M → Prop := fun d z => ∃ ds, d.seqs = some ds ∧ z = .ml ds
def rListOf (K : PySem.W.Frag) : List V → Hp → VK → Prop := fun xs H Q => ∃ p ys, xs = [.ref p] ∧ (SqL K H p ys ∨ SqT K H p ys) ∧ ∀ l, H l = none → Q (.ref l) (upd H l (.lst ys))
theorem call_listA (hK : X.K = K) : CallR X (.type "list") (rListOf K) := by subst hK; exact call_list_of
theorem cd_list : CallD K (rListOf K) (f1 dList) := CallD.one fun F H x m B z Q sb w hz k => by
  obtain ⟨ds, e, rfl⟩ := hz
  obtain ⟨a, xs, rfl, h, zs, _⟩ := w.seqV sb e
  refine ⟨a, xs, rfl, h, fun l hl => ?_⟩
  obtain ⟨g, s2, o⟩ := new_lst sb hl zs
  exact k _ _ _ _ g s2 o (by simp)
def dTuple : D → M → Prop
  | .lst ds, z => z = .fz (.tup ds)
  | .scr ns, z => z = .fz (.tup (ns.map D.int))
  | .tup ds, z => z = .fz (.tup ds)
  | .wtu ds, z => z = .fz (.wtu ds)
  | _, _ => False
def rTupleOf (K : PySem.W.Frag) : List V → Hp → VK → Prop := fun xs H Q => ∃ p ys, xs = [.ref p] ∧ ((SqL K H p ys ∧ ∀ l, H l = none → Q (.ref l) (upd H l (.tup ys))) ∨ (SqT K H p ys ∧ Q (.ref p) H))
theorem call_tupleA (hK : X.K = K) : CallR X (.type "tuple") (rTupleOf K) := by subst hK; exact call_tuple_of
theorem cd_tuple : CallD K (rTupleOf K) (f1 dTuple) := CallD.one fun F H x m B z Q sb w hz k => by
  generalize e : m.frz = d at hz
  cases d with
  | lst ds =>
    cases hz
    obtain ⟨a, xs, rfl, h, zs, _, hl⟩ := w.seqV (ds := ds) sb (by rw [e]; rfl)
    refine ⟨a, xs, rfl, .inl ⟨hl (.inl ⟨_, e⟩), fun l hl => ?_⟩⟩
    obtain ⟨g, s2, o⟩ := new_tup sb hl zs
    exact k _ _ _ _ g s2 o List.nodup_nil
  | scr ns =>
    cases hz
    obtain ⟨a, xs, rfl, h, zs, _, hl⟩ := w.seqV (ds := ns.map D.int) sb (by rw [e]; rfl)
    refine ⟨a, xs, rfl, .inl ⟨hl (.inr ⟨_, e⟩), fun l hl => ?_⟩⟩
    obtain ⟨g, s2, o⟩ := new_tup sb hl zs
    exact k _ _ _ _ g s2 o List.nodup_nil
  | tup ds =>
    cases hz
    obtain ⟨a, xs, rfl, h, zs, ht, _⟩ := w.seqV (ds := ds) sb (by rw [e]; rfl)
    have ht := ht (.inl ⟨_, e⟩)
    rw [e] at ht
    exact ⟨a, xs, rfl, .inr ⟨ht.1, k _ F H [] Frm.refl sb (.fz ht.2) List.nodup_nil⟩⟩
  | wtu ds =>
    cases hz
    obtain ⟨a, xs, rfl, h, zs, ht, _⟩ := w.seqV (ds := ds) sb (by rw [e]; rfl)
    have ht := ht (.inr ⟨_, e⟩)
    rw [e] at ht
    exact ⟨a, xs, rfl, .inr ⟨ht.1, k _ F H [] Frm.refl sb (.fz ht.2) List.nodup_nil⟩⟩
  | _ => exact hz.elim
def D.tyN : D → Option String
  | .int _ => some "int"
  | .str _ => some "str"
  | .lst _ => some "list"
  | .tup _ => some "tuple"
  | _ => none
def dIsTy : List D → M → Prop
  | [d, .ty T], z => d.tyN = some T ∧ z = .fz (.bl true)
  | _, _ => False
theorem de_ty {x : Str} {T : String} (hg : Gl X x) (hm : X.mg x = none) (hv : bootBuiltins x = some (.type T)) (hn : x ≠ "__name__" := by decide) (hd : (x == ("__debug__" : Str)) = false := by decide) : DE Z X (.Name x pos) (tC (.ty T)) (mC (.ty T)) :=
  ⟨pe_bltn hg hm hv rfl hn hd, .const fun _ => .ty T⟩
theorem OwS.mutL {i : Nat} {sl : Slot} {ds : List D} (ow : OwS K F H σ s A) (nd : A.Nodup) (sb : Sub F H) (es : s[i]? = some sl) (em : sl.m? = some (.ml ds)) : ∃ a xs, σ[i]? = some (some (.ref a)) ∧ H a = some (.lst xs) ∧ Fzs K F xs ds ∧
    ∀ xs' ds', Fzs K F xs' ds' → Frm F H A F (upd H a (.lst xs')) A ∧ Sub F (upd H a (.lst xs')) ∧ OwS K F (upd H a (.lst xs')) σ (s.set i (sl.put (.ml ds'))) A := by
  obtain ⟨x, B, C, E, ex, o, hA, kk⟩ := ow.split es em
  cases o with
  | ml nF hH zs =>
    rename_i a xs
    refine ⟨a, xs, ex, hH, zs, fun xs' ds' z' => ?_⟩
    subst hA
    have g : Frm F H [a] F (upd H a (.lst xs')) [a] := Frm.upd hH trivial
    refine ⟨g.more (fun b q => ?_) (fun b hb => .inl hb), sb.upd nF (.inr ⟨_, hH, trivial⟩), kk F _ [a] [a] (.ml ds') [a] g (fun b hb hq => ?_) (.ml nF upd_same z')⟩
    · rw [mem3]; exact .inr (.inl q)
    · rcases List.mem_append.mp hb with p | p
      · exact nd_x (nd_l nd) b p hq
      · exact nd_x nd b (List.mem_append_right _ hq) p
def slotM (s : DSt) (i : Nat) : Option M := match s[i]? with
  | some sl => sl.m?
  | none => none
theorem slotM_at {i : Nat} {m : M} (h : slotM s i = some m) : ∃ sl, s[i]? = some sl ∧ sl.m? = some m := by
  unfold slotM at h
  cases e : s[i]? with
  | none => simp [e] at h
  | some sl => simp [e] at h; exact ⟨sl, rfl, h⟩
def setM (s : DSt) (i : Nat) (m : M) : DSt := s.set i ((s[i]?.getD .un).put m)
def mApp (i : Nat) (m : TDs) : TD := fun s Q => (∃ ds, slotM s i = some (.ml ds)) ∧ m s fun ws s1 => tvs ws s1 fun ms s2 => ∃ ds y, slotM s2 i = some (.ml ds) ∧ ms = [y] ∧ ds.length < sizeLine ∧ Q (.val (.fz .non)) (setM s2 i (.ml (ds ++ [y.frz])))
theorem Lift.app {i : Nat} {t : TA} {m : TDs} (l : Lifts Z t m) : Lift Z (tBM Z.K "list" rAppend (tVar i) t) (mApp i m) := by
  intro σ H F A s Q Qd R h k
  obtain ⟨⟨ds0, e0⟩, h⟩ := h
  obtain ⟨sl0, es0, em0⟩ := slotM_at e0
  obtain ⟨a0, xs0, ev0, hH0, _⟩ := R.own.mutL R.nd R.sub es0 em0
  refine ⟨.ref a0, ev0, .inl ⟨rfl, xs0, SqL.of hH0⟩, l σ H F A s _ _ R h fun ws s1 vs F1 H1 Av A1 h1 o1 => ?_⟩
  obtain ⟨ms, s2, F2, A2, ⟨ds, y, e2, rfl, hl, q⟩, o⟩ := tvs_fz o1 h1
  obtain ⟨sl, es, em⟩ := slotM_at e2
  obtain ⟨a, xs, ev, hH, zs, kk⟩ := o.own.mutL (by simpa using o.nd) o.sub es em
  rw [ev0] at ev
  cases ev
  have hv := o.fz
  cases hv with
  | @cons v0 _ _ _ zy r =>
    cases r
    have hlen := zs.length
    obtain ⟨g, sb, ow⟩ := kk (xs ++ [v0]) (ds ++ [y.frz]) (zs.append (.cons zy .nil))
    refine ⟨a0, xs, v0, rfl, rfl, hH, by omega, ?_⟩
    have fr : Frm F H A F2 (upd H1 a0 (.lst (xs ++ [v0]))) ([] ++ A2) := Frm.trans0 (A1 := A2) (by simpa using o.fr) (by simpa using g)
    have ow' : OwS Z.K F2 (upd H1 a0 (.lst (xs ++ [v0]))) σ (setM s2 i (.ml (ds ++ [y.frz]))) A2 := by
      unfold setM
      rw [es]
      exact ow
    exact k _ _ _ _ _ [] A2 q ⟨fr, sb, .val (.fz .non), ow', o.nd⟩
theorem de_append {i : Nat} {x : Str} {e : Expr} {t : TA} {m : TDs} {p apos cpos : Pos} (hK : X.K = Z.K) (ha : DA Z X [e] t m) (hN : X.N[i]? = some x := by rfl) (hv : Vis X.env.scope x := by first | exact Or.inl rfl | exact Or.inr (Or.inl rfl) | exact Or.inr (Or.inr rfl)) (hd : (x == ("__debug__" : Str)) = false := by decide) (hcd : (x == ("__classdict__" : Str)) = false := by decide)
    (hbase : attributeBase (.Name x p) "append" X.env (eval (.Name x p) X.env) = eval (.Name x p) X.env := by rfl) (hfew : ((backTo cpos (starEach [e] X.env)).all (fun x => !x.1) && (backToKw cpos (keywordEach [] X.env)).all (fun x => x.1.isSome) && decide (([e] : List Expr).length + ([] : List Keyword).length + (if ([] : List Keyword).isEmpty then 0 else 1) < 30)) = true := by rfl) (hline : (apos.endLine == cpos.line) = true := by rfl) (hs : starEach [e] X.env = (false, eval e X.env) :: starEach [] X.env := by rfl) :
    DE Z X (.Call (.Attribute (.Name x p) "append" apos) [e] [] cpos) (tBM Z.K "list" rAppend (tVar i) t) (mApp i m) :=
  ⟨by rw [← hK]; exact pe_bm PySem.F.plainAttrs_list PySem.F.slot_list_append PySem.F.type_list_append mt_append (pv i hN hv hd hcd) ha.pa hbase hfew hline hs, .app ha.lf⟩
end
end DL
namespace DL
open PySem PySem.Spec L2
def TopFn (K : PySem.W.Frag) (mg : Str → Option Value) (x : Str) (st : Stmt) (ps : List Str) : Prop :=
  ∃ (f : Addr) (fd : FuncData), Fun K x x st f fd ∧ mg x = some (.ref f) ∧ ∀ us : List Value, us.length = ps.length → bindArgs fd ⟨us, []⟩ = pure (ps.zip us)
theorem topFn_mk {K : PySem.W.Frag} {h : Heap} {mg : Str → Option Value} {x : Str} {st : Stmt} {ps : List Str} {f : Addr} {oc : Value} {od an : Option Addr} {osl : Array (Option Value)} {kV doc pm cdv ct : Value} (X : K.In h) (G : h.Ns mainGlobals mg)
    (a : PySem.W.nsIn K mainGlobals x = some (some (.ref f))) (l : K.lookup f = some ⟨oc, od, .func (PySem.W.fnOf x x (defArgs st) (defBody st) (defScope st) .none kV doc pm an cdv ct), osl⟩) (c : PySem.W.codeIn K cdv x = true) (k : PySem.W.keepIn K (.ref f) = true)
    (hb : ∀ (kV doc pm : Value) (an : Option Addr) (cdv ct : Value) (us : List Value), us.length = ps.length → bindArgs (PySem.W.fnOf x x (defArgs st) (defBody st) (defScope st) .none kV doc pm an cdv ct) ⟨us, []⟩ = pure (ps.zip us)) : TopFn K mg x st ps :=
  ⟨f, _, fun_mk l c k, PySem.W.mg_of X G a, hb _ _ _ _ _ _⟩
def FnAt (P : Program) (w : World) (K : PySem.W.Frag) (mg : Str → Option Value) (base : Heap) (T : List (Addr × Str)) (k : Nat) (x : Str) (ps : List Str) (io : Bool) (c : CT) : Prop :=
  ∃ (f : Addr) (fd : FuncData), FnOk P w K mg base (L2.CX P w) k f fd ps (spD K T io c) ∧ mg x = some (.ref f) ∧ PySem.W.keepIn K (.ref f) = true ∧ Binds K fd ps [] ∧ ∃ st, Fun K x x st f fd
section
variable {P : Program} {w : World} {K : PySem.W.Frag} {mg : Str → Option Value} {base : Heap}
theorem fnAt {x : Str} {st : Stmt} {N ps : List Str} {k : Nat} {io : Bool} {c : CT} {T : List (Addr × Str)} (Tf : TopFn K mg x st ps) (S : FnScope N ps (defScope st)) (hlen : ∀ ms R X, c ms R X → ms.length = ps.length) (hio : io = true → 0 < ps.length)
    (hbody : ∀ (f : Addr) (cdv : Value) (A : Around) (outer : List Env) (s : Shared) (H : Hp) (E : XK) (x0 : V) (Xd : Value → Pay → List M → Prop), Room k (A.deeper (PyProof.Rows.envOfC x (defScope st) s.heap.objs.size f cdv)) →
      ∃ t m, DSs ⟨K, fun cls d _ H' => E cls d H', fun cls pl s' => fin io x0 s' (Xd cls pl), T⟩ (cxOf (L2.CX P w) P w K mg base N x (defScope st) f cdv A outer s H E) (defBody st) t m ∧
        ∀ ms Rd, c ms Rd Xd → m ⟨fun s' => fin io x0 s' (Rd (.fz .non)), fun r s' => fin io x0 s' (Rd r), fun _ => False, fun _ => False⟩ (startD io x0 ms N.length)) :
    FnAt P w K mg base T (k + 1) x ps io c := by
  obtain ⟨f, fd, Fn, hm, hb⟩ := Tf
  exact ⟨f, fd, fn_ok Fn S hlen hio (fun cdv _ => hbody f cdv), hm, Fn.kp, .all hb, _, Fn⟩
theorem Fun.same {x y : Str} {st st' : Stmt} {f : Addr} {fd fd' : FuncData} (a : Fun K x x st f fd) (b : Fun K y y st' f fd') : fd = fd' := by
  obtain ⟨oc, od, kV, doc, pm, an, cdv, ct, osl, e, l, c⟩ := a.ex
  obtain ⟨oc', od', kV', doc', pm', an', cdv', ct', osl', e', l', c'⟩ := b.ex
  rw [l] at l'
  cases l'
  rfl
theorem law_fd {st : Stmt} {fa : Addr} {k : Nat} {c : CT} {x : Str} {T : List (Addr × Str)} (Tf : TopFn K mg "law" st [x]) (hfa : mg "law" = some (.ref fa)) (G : ∀ base : Heap, K.In base → base.Ns mainGlobals mg → FnAt P w K mg base T k "law" [x] false c) :
    ∃ fd : FuncData, (∀ (s : Shared) (v : Value), BindsTo s fd ⟨[v], []⟩ [(x, v)]) ∧ ∀ base : Heap, K.In base → base.Ns mainGlobals mg → FnOk P w K mg base (L2.CX P w) k fa fd [x] (spD K T false c) := by
  obtain ⟨f, fd, Fn, hm, hb⟩ := Tf
  rw [hfa] at hm
  cases hm
  refine ⟨fd, fun s v => .of_eq (hb [v] rfl), fun base hK hN => ?_⟩
  obtain ⟨f', fd', ok, hm', _, _, st', Fn'⟩ := G base hK hN
  rw [hfa] at hm'
  cases hm'
  rw [Fun.same Fn Fn']
  exact ok
theorem passD {qual : Str} {scope : Scope} {N : List Str} {f : Addr} {cdv : Value} {A : Around} {outer : List Env} {s : Shared} {H : Hp} {E : XK} :
    PassesOwn (model P w) (cxOf (L2.CX P w) P w K mg base N qual scope f cdv A outer s H E).A (cxOf (L2.CX P w) P w K mg base N qual scope f cdv A outer s H E).env (cxOf (L2.CX P w) P w K mg base N qual scope f cdv A outer s H E).xe :=
  passes_of (X := cxOf (L2.CX P w) P w K mg base N qual scope f cdv A outer s H E) rfl
end
section
variable {Z : ZX} {X : Cx} {pos : Pos}
theorem de_callN {c : CT} {k : Nat} {ps : List Str} {x : Str} {p : Pos} {e : Expr} {es : List Expr} {t : TA} {m : TDs} (Fn : FnAt X.prog X.w X.K X.mg X.base Z.T k x ps false c) (hr : Room k X.A) (hg : Gl X x) (hK : X.K = Z.K) (tk : Takes X Z.W) (ha : DA Z X (e :: es) t m) (hdb : (x == ("__debug__" : Str)) = false := by decide) (he : starEach (e :: es) X.env = (false, eval e X.env) :: starEach es X.env := by rfl) (hpl : (backTo pos (starEach es X.env)).any (·.1) = false := by rfl) : DE Z X (.Call (.Name x p) (e :: es) [] pos) (tCallS (spD Z.K Z.T false c) (WE Z.W) t) (mCall Z.D c m) := by
  obtain ⟨f, fd, F, hm, hk, hb, _⟩ := Fn
  exact de_call (by rw [← hK]; exact F) hr hg hm hk hb tk ha hdb he hpl
theorem de_gint {x : Str} {i : Int} (h : ∃ t, X.mg x = some (.int i t)) (hg : Gl X x := by rfl) (hd : (x == ("__debug__" : Str)) = false := by decide) : DE Z X (.Name x pos) (tC (.int i)) (mC (.int i)) := by
  obtain ⟨t, h⟩ := h
  exact de_glob hg h ⟨t, rfl⟩ (fun _ => .int i) hd
theorem de_gstr {x : Str} {i : Str} (h : ∃ t, X.mg x = some (.str i t)) (hg : Gl X x := by rfl) (hd : (x == ("__debug__" : Str)) = false := by decide) : DE Z X (.Name x pos) (tC (.str i)) (mC (.str i)) := by
  obtain ⟨t, h⟩ := h
  exact de_glob hg h ⟨t, rfl⟩ (fun _ => .str i) hd
theorem hu64 {k : Nat} (hr : Room k X.A) : X.A.units + 64 < cLine := hr.units
theorem hu1 {k : Nat} (hr : Room k X.A) : X.A.units + 1 < cLine := hu_of hr
def mUn (f : D → M → Prop) (m : TD) : TD := fun s Q => m s fun w s' => ∃ x z, res s' w = some x ∧ f x z ∧ Q (.val z) s'
def dNeg : D → M → Prop
  | .int i, z => z = .fz (.int (-i))
  | _, _ => False
theorem Lift.neg {t : TE} {m : TD} (l : Lift Z t m) : Lift Z (tUn (rU fun i => .int (-i)) t) (mUn dNeg m) := by
  intro σ H F A s Q Qd R h k
  refine l σ H F A s _ _ R h fun w s1 v F1 H1 Av A1 h1 o1 => ?_
  obtain ⟨x, z, e, hz, q⟩ := h1
  have zv := o1.wow.view o1.sub o1.own e
  cases zv with
  | int i => cases hz; exact ⟨i, rfl, k _ _ _ _ _ _ _ q (o1.flat (.int _))⟩
  | _ => exact hz.elim
theorem de_neg {a : Expr} {t : TE} {m : TD} (h : DE Z X a t m) : DE Z X (.UnaryOp .USub a pos) (tUn (rU fun i => .int (-i)) t) (mUn dNeg m) := ⟨pe_un un_neg h.pe, .neg h.lf⟩
def mPar (i j : Nat) (m : TDs) : TSd := fun D s => m s fun ws s1 => tvs ws s1 fun ms s2 => ∃ y z, ms = [y, z] ∧ gNm i y s2 fun s3 => gNm j z s3 D.nx
end
theorem bo_int : bootBuiltins "int" = some (.type "int") := by decide +kernel
theorem bo_str : bootBuiltins "str" = some (.type "str") := by decide +kernel
theorem bo_len : bootBuiltins "len" = some (.builtin "len") := by decide +kernel
theorem bo_list : bootBuiltins "list" = some (.type "list") := by decide +kernel
theorem bo_tuple : bootBuiltins "tuple" = some (.type "tuple") := by decide +kernel
theorem bo_isinstance : bootBuiltins "isinstance" = some (.builtin "isinstance") := by decide +kernel
theorem law_sp {K : PySem.W.Frag} {H : Hp} {a : Addr} {ns : List Int} {c : CT} (hn : ∀ a ps, H a ≠ some (.tbl ps)) (hS : SqL K H a (ns.map V.int)) (hc : ∀ (R : M → List M → Prop) (X : Value → Pay → List M → Prop), R (.fz (.bl true)) [] → c [.fz (.scr ns)] R X) : spD K [] false c [.ref a] H (fun v _ => v = .bl true) fun _ _ _ => False := by
  refine ⟨H, [], [.fz (.scr ns)], fun r _ => r = .fz (.bl true), fun _ _ _ => False, ⟨(fun _ h => nomatch h), fun a ps e => absurd e (hn a ps)⟩, Sub.refl H, .cons (A1 := []) (A2 := []) (.fz (.scr hS)) .nil, List.nodup_nil, hc _ _ rfl, ?_, fun _ _ _ _ _ _ _ h => h.elim⟩
  rintro r ms' v F' H' Av A' rfl - - ow - -
  cases ow with
  | fz z => cases z; rfl
theorem law_walk {l : PySem.W.OpenLaw} {q : Program} {loose : List Str} {XP : (Str → Option Value) → Heap → Prop} {YP : World → Heap → Prop} {d : DefRec} {K : Params → PySem.W.Frag} {x : Str} {c : CT} {k : Nat} (hn : l.most = some 63) (hdf : d.params.defaults = []) (hr : Room k callerA)
    (hc : ∀ (ns : List Int) (R : M → List M → Prop) (X : Value → Pay → List M → Prop), ns.length ≤ 63 → R (.fz (.bl true)) [] → c [.fz (.scr ns)] R X)
    (hY : ∀ (w : World) (h : Heap), YP w h → (K w.params).In h)
    (F : ∀ (w : World) (mg : Str → Option Value) (fa : Addr) (h : Heap), (K w.params).In h → h.Ns mainGlobals mg → mg d.name = some (.ref fa) →
      ∃ fd : FuncData, (∀ (s : Shared) (u : Value), BindsTo s fd ⟨[u], []⟩ [(x, u)]) ∧ ∀ base : Heap, (K w.params).In base → base.Ns mainGlobals mg → FnOk l.prog w (K w.params) mg base (L2.CX l.prog w) k fa fd [x] (spD (K w.params) [] false c)) :
    PySem.W.WalkO q loose XP YP l.row.toRowW d [] (fun f vs => PySem.call f vs) :=
  L2.walk_of (n := 63) (k := k) (x := x) (CX := fun w => L2.CX l.prog w) (sp := fun w => spD (K w.params) [] false c) hn (by decide) hdf hr hY F (fun _ H a ns hl hO hS => law_sp (fun b ps e => by rcases hO b with q | ⟨o, xs, q⟩ <;> rw [q] at e <;> cases e) hS fun R X h => hc ns R X hl h) fun _ _ _ _ _ z => by
    obtain ⟨_, _, _, _, _, _, _, _, _, _, _, _, h⟩ := z
    exact h
end DL
namespace DL
open PySem PySem.Spec L2
inductive Lock {α : Type} (k : α) : Type
  | mk
def br (b : Bool) (M : DSt → Prop) (l : Lock M) (N : DSt → Prop) (r : Lock N) (s : DSt) : Prop := if b = true then M s else N s
theorem br_t {M N : DSt → Prop} {l r} {s : DSt} : br true M l N r s = M s := by simp [br]
theorem br_f {M N : DSt → Prop} {l r} {s : DSt} : br false M l N r s = N s := by simp [br]
theorem br_of {b : Bool} {M N : DSt → Prop} {l r} {s : DSt} (h1 : b = true → M s) (h2 : b = false → N s) : br b M l N r s := by
  cases b
  · exact h2 rfl
  · exact h1 rfl
theorem br_dec {p : Prop} [Decidable p] {M N : DSt → Prop} {l r} {s : DSt} (h1 : p → M s) (h2 : ¬ p → N s) : br (decide p) M l N r s := br_of (fun h => h1 (by simpa using h)) (fun h => h2 (by simpa using h))
theorem br_ndec {p : Prop} [Decidable p] {M N : DSt → Prop} {l r} {s : DSt} (h1 : ¬ p → M s) (h2 : p → N s) : br (!decide p) M l N r s := br_of (fun h => h1 (by simpa using h)) (fun h => h2 (by simpa using h))
def wD {α : Type} (o : Option α) (k : α → Prop) (l : Lock k) : Prop := match o with
  | some x => k x
  | none => False
theorem wD_some {α : Type} {x : α} {k : α → Prop} {l} : wD (some x) k l = k x := rfl
theorem wD_eq {α : Type} {o : Option α} {k : α → Prop} {l} : (∃ x, o = some x ∧ k x) = wD o k l := by
  cases o <;> simp [wD]
theorem wD_of {α : Type} {o : Option α} {k : α → Prop} {l} {x : α} (h : o = some x) (q : k x) : wD o k l := by subst h; exact q
def opz (p : M → Prop) (k : M → Prop) (l : Lock k) : Prop := ∃ z, p z ∧ k z
theorem opz_one {p k : M → Prop} {l} (z : M) (h : p = fun y => y = z) : opz p k l = k z := by subst h; simp [opz]
theorem opz_and {p k : M → Prop} {l} {C : Prop} (z : M) (h : p = fun y => C ∧ y = z) : opz p k l = (C ∧ k z) := by subst h; simp [opz, and_assoc]
theorem opz_of {p k : M → Prop} {l} {z : M} (h : p z) (q : k z) : opz p k l := ⟨z, h, q⟩
def opb (p : M → Prop) (k : Bool → Prop) (l : Lock k) : Prop := ∃ z : Bool, p (.fz (.bl z)) ∧ k z
theorem opb_and {p : M → Prop} {k : Bool → Prop} {l} {C : Prop} (z : Bool) (h : p = fun y => C ∧ y = .fz (.bl z)) : opb p k l = (C ∧ k z) := by subst h; simp [opb, and_assoc]
def trz (x : D) (k : Bool → Prop) (l : Lock k) : Prop := ∃ b, x.truth b ∧ k b
def got (sl : Slot) (p : Prop) : Prop := match sl with
  | .un => False
  | .v _ => p
  | .p _ _ => p
def gset (sl : Slot) (p : Prop) : Prop := match sl with
  | .un => p
  | .v _ => p
  | .p _ _ => False
def vslot (sl : Slot) (k : M → Prop) (l : Lock k) : Prop := match sl with
  | .v m => k m
  | _ => False
def fslot (sl : Slot) (k : D → Prop) (l : Lock k) : Prop := match sl with
  | .v (.fz x) => k x
  | _ => False
def asB (x : D) (k : Bool → Prop) (l : Lock k) : Prop := match x with
  | .bl b => k b
  | _ => False
def asI (x : D) (k : Int → Prop) (l : Lock k) : Prop := match x with
  | .int b => k b
  | _ => False
def asT (x : D) (k : List D → Prop) (l : Lock k) : Prop := match x with
  | .tup b => k b
  | _ => False
def asL (x : M) (k : List D → Prop) (l : Lock k) : Prop := match x with
  | .ml b => k b
  | _ => False
def hasL (x : Option M) : Prop := match x with
  | some (.ml _) => True
  | _ => False
def one {α : Type} (x : List α) (k : α → Prop) (l : Lock k) : Prop := match x with
  | [a] => k a
  | _ => False
def two {α : Type} (x : List α) (k : α → α → Prop) (l : Lock k) : Prop := match x with
  | [a, b] => k a b
  | _ => False
def int1 (x : List D) (k : Int → Prop) (l : Lock k) : Prop := match x with
  | [.int a] => k a
  | _ => False
def int2 (x : List D) (k : Int → Int → Prop) (l : Lock k) : Prop := match x with
  | [.int a, .int b] => k a b
  | _ => False
theorem got_v {m : M} {p : Prop} : got (.v m) p = p := rfl
theorem got_p {x : V} {m : M} {p : Prop} : got (.p x m) p = p := rfl
theorem gset_un {p : Prop} : gset .un p = p := rfl
theorem gset_v {m : M} {p : Prop} : gset (.v m) p = p := rfl
theorem gset_free {sl : Slot} {p : Prop} (h : sl.pinned = false) : gset sl p = p := by
  cases sl with
  | p _ _ => cases h
  | _ => rfl
theorem vslot_v {m : M} {k : M → Prop} {l} : vslot (.v m) k l = k m := rfl
theorem fslot_v {d : D} {k : D → Prop} {l} : fslot (.v (.fz d)) k l = k d := rfl
theorem asB_b {b : Bool} {k : Bool → Prop} {l} : asB (.bl b) k l = k b := rfl
theorem asI_i {b : Int} {k : Int → Prop} {l} : asI (.int b) k l = k b := rfl
theorem asT_t {b : List D} {k : List D → Prop} {l} : asT (.tup b) k l = k b := rfl
theorem asL_l {b : List D} {k : List D → Prop} {l} : asL (.ml b) k l = k b := rfl
theorem hasL_l {b : List D} : hasL (some (.ml b)) = True := rfl
theorem one_1 {α : Type} {a : α} {k : α → Prop} {l} : one [a] k l = k a := rfl
theorem two_2 {α : Type} {a b : α} {k : α → α → Prop} {l} : two [a, b] k l = k a b := rfl
theorem int1_1 {a : Int} {k : Int → Prop} {l} : int1 [.int a] k l = k a := rfl
theorem int2_2 {a b : Int} {k : Int → Int → Prop} {l} : int2 [.int a, .int b] k l = k a b := rfl
section
variable {s : DSt} {i j n : Nat} {ma mb mc m m' : TD} {ms : TDs} {f f' : D → D → M → Prop} {D0 : DEnds} {c c' : TTd} {a b : TSd} {g : TGd} {gs : TGds}
theorem s_var {Q} : mVar i s Q = wD s[i]? (fun sl => got sl (Q (.slot i) s)) .mk := by
  unfold mVar wD
  cases s[i]? with
  | none => rfl
  | some sl => cases sl <;> rfl
theorem s_c {d : D} {Q} : mC d s Q = Q (.val (.fz d)) s := rfl
theorem op2_eq {ox oy : Option D} {Q : M → Prop} : (∃ x y z, ox = some x ∧ oy = some y ∧ f x y z ∧ Q z) = wD ox (fun x => wD oy (fun y => opz (f x y) Q .mk) .mk) .mk := by
  cases ox <;> cases oy <;> simp [wD, opz]
theorem op1_eq {α : Type} {ox : Option α} {h : α → M → Prop} {Q : M → Prop} : (∃ x z, ox = some x ∧ h x z ∧ Q z) = wD ox (fun x => opz (h x) Q .mk) .mk := by
  cases ox <;> simp [wD, opz]
theorem s_op {Q} : mOp f ma mb s Q = ma s fun wa s1 => mb s1 fun wb s2 => wD (res s2 wa) (fun x => wD (res s2 wb) (fun y => opz (f x y) (fun z => Q (.val z) s2) .mk) .mk) .mk := by
  unfold mOp
  simp only [op2_eq]
theorem isB_eq {ox : Option D} {Q : Bool → Prop} : (∃ b, ox = some (.bl b) ∧ Q b) = wD ox (fun x => asB x Q .mk) .mk := by
  cases ox with
  | none => simp [wD]
  | some x => cases x <;> simp [wD, asB]
theorem isI_eq {ox : Option D} {Q : Int → Prop} : (∃ b, ox = some (.int b) ∧ Q b) = wD ox (fun x => asI x Q .mk) .mk := by
  cases ox with
  | none => simp [wD]
  | some x => cases x <;> simp [wD, asI]
theorem isL_eq {ox : Option M} {Q : List D → Prop} : (∃ b, ox = some (.ml b) ∧ Q b) = wD ox (fun x => asL x Q .mk) .mk := by
  cases ox with
  | none => simp [wD]
  | some x => cases x <;> simp [wD, asL]
theorem hasL_eq {ox : Option M} : (∃ b, ox = some (.ml b)) = hasL ox := by
  cases ox with
  | none => simp [hasL]
  | some x => cases x <;> simp [hasL]
theorem s_test {Q} : mTest m s Q = m s fun w s' => wD (res s' w) (fun x => asB x (fun b => Q b s') .mk) .mk := by
  unfold mTest
  simp only [isB_eq]
theorem s_truth {Q} : mTruth m s Q = m s fun w s' => wD (res s' w) (fun x => trz x (fun b => Q b s') .mk) .mk := by
  have : ∀ (w : W) (s' : DSt), (∃ x b, res s' w = some x ∧ x.truth b ∧ Q b s') = wD (res s' w) (fun x => trz x (fun b => Q b s') .mk) .mk := by
    intro w s'
    cases res s' w <;> simp [wD, trz]
  unfold mTruth
  simp only [this]
theorem s_chain {Q} : mChain f f' ma mb mc s Q = ma s fun wa s1 => mb s1 fun wb s2 => wD (res s2 wa) (fun x => wD (res s2 wb) (fun y => opb (f x y) (fun z =>
    br z (fun s2 => mc s2 fun wc s3 => wD (res s3 wb) (fun x => wD (res s3 wc) (fun y => opz (f' x y) (fun z => Q (.val z) s3) .mk) .mk) .mk) .mk (fun s2 => Q (.val (.fz (.bl false))) s2) .mk s2) .mk) .mk) .mk := by
  have h1 : ∀ (wa wb : W) (s2 : DSt) (R : Bool → Prop), (∃ x y z, res s2 wa = some x ∧ res s2 wb = some y ∧ f x y (.fz (.bl z)) ∧ R z) = wD (res s2 wa) (fun x => wD (res s2 wb) (fun y => opb (f x y) R .mk) .mk) .mk := by
    intro wa wb s2 R
    cases res s2 wa <;> cases res s2 wb <;> simp [wD, opb]
  unfold mChain
  simp only [h1, op2_eq, br]
theorem s_and {Q} : mAnd c c' s Q = c s fun x s1 => br x (fun s1 => c' s1 Q) .mk (fun s1 => Q false s1) .mk s1 := rfl
theorem s_or {Q} : mOr c c' s Q = c s fun x s1 => br x (fun s1 => Q true s1) .mk (fun s1 => c' s1 Q) .mk s1 := rfl
theorem s_not {Q} : mNot c s Q = c s fun x s1 => Q (!x) s1 := rfl
theorem s_andV {Q} : mAndV ma mb s Q = ma s fun w s1 => wD (res s1 w) (fun x => asB x (fun c => br c (fun s1 => mb s1 Q) .mk (fun s1 => Q (.val (.fz (.bl false))) s1) .mk s1) .mk) .mk := by
  unfold mAndV
  simp only [isB_eq, br]
theorem s_orV {Q} : mOrV ma mb s Q = ma s fun w s1 => wD (res s1 w) (fun x => asB x (fun c => br c (fun s1 => Q (.val (.fz (.bl true))) s1) .mk (fun s1 => mb s1 Q) .mk s1) .mk) .mk := by
  unfold mOrV
  simp only [isB_eq, br]
theorem s_notV {Q} : mNotV ma s Q = ma s fun w s1 => wD (res s1 w) (fun x => asB x (fun c => Q (.val (.fz (.bl (!c)))) s1) .mk) .mk := by
  unfold mNotV
  simp only [isB_eq]
theorem s_if {Q} : mIf c ma mb s Q = c s fun x s1 => br x (fun s1 => ma s1 Q) .mk (fun s1 => mb s1 Q) .mk s1 := rfl
theorem s_un {h : D → M → Prop} {Q} : mUn h ma s Q = ma s fun w s' => wD (res s' w) (fun x => opz (h x) (fun z => Q (.val z) s') .mk) .mk := by
  unfold mUn
  simp only [op1_eq]
theorem s_nil {Q} : mNil s Q = Q [] s := rfl
theorem s_cons {Q} : mCons ma ms s Q = ma s fun w s1 => ms s1 fun ws s2 => Q (w :: ws) s2 := rfl
theorem s_cb {h : List D → M → Prop} {Q} : mCB h ms s Q = ms s fun ws s' => wD (resL s' ws) (fun ds => opz (h ds) (fun z => Q (.val z) s') .mk) .mk := by
  unfold mCB
  simp only [op1_eq]
theorem opz_f1 {h : D → M → Prop} {d : D} {k l} : opz (f1 h [d]) k l = opz (h d) k l := rfl
theorem s_call {E : Value → Pay → DSt → Prop} {C : CT} {Q} : mCall E C ms s Q = ms s fun ws s1 => tvs ws s1 fun ms s2 => C ms (fun r _ => Q (.val r) s2) fun cls pl _ => E cls pl s2 := rfl
theorem s_tup {Q} : mTup ms s Q = ms s fun ws s1 => tvs ws s1 fun ms s2 => ms.length ≤ sizeLine ∧ Q (.val (.fz (.tup (ms.map M.frz)))) s2 := rfl
theorem s_lst {Q} : mLst ms s Q = ms s fun ws s1 => tvs ws s1 fun ms s2 => ms.length ≤ sizeLine ∧ Q (.val (.ml (ms.map M.frz))) s2 := rfl
theorem s_nopart {Q} : mNoPart s Q = Q none s := rfl
theorem s_part {Q} : mPart ma s Q = ma s fun w s' => wD (res s' w) (fun x => asI x (fun i => Q (some i) s') .mk) .mk := by
  unfold mPart
  simp only [isI_eq]
theorem s_sl {lo hi : TOd} {Q} : mSl ma lo hi s Q = ma s fun w s1 => lo s1 fun lo s2 => hi s2 fun hi s3 => wD (res s3 w) (fun x => opz (dSl x lo hi) (fun z => Q (.val z) s3) .mk) .mk := by
  have : ∀ (w : W) (lo hi : Option Int) (s' : DSt), (∃ x z, res s' w = some x ∧ dSl x lo hi z ∧ Q (.val z) s') = wD (res s' w) (fun x => opz (dSl x lo hi) (fun z => Q (.val z) s') .mk) .mk := by
    intro w lo hi s'
    cases res s' w <;> simp [wD, opz]
  unfold mSl
  simp only [this]
theorem s_app {Q} : mApp i ms s Q = (hasL (slotM s i) ∧ ms s fun ws s1 => tvs ws s1 fun ms s2 => wD (slotM s2 i) (fun m => asL m (fun ds => one ms (fun y => ds.length < sizeLine ∧ Q (.val (.fz .non)) (setM s2 i (.ml (ds ++ [y.frz])))) .mk) .mk) .mk) := by
  have : ∀ (ms : List M) (s2 : DSt), (∃ ds y, slotM s2 i = some (.ml ds) ∧ ms = [y] ∧ ds.length < sizeLine ∧ Q (.val (.fz .non)) (setM s2 i (.ml (ds ++ [y.frz])))) = wD (slotM s2 i) (fun m => asL m (fun ds => one ms (fun y => ds.length < sizeLine ∧ Q (.val (.fz .non)) (setM s2 i (.ml (ds ++ [y.frz])))) .mk) .mk) .mk := by
    intro ms s2
    cases slotM s2 i with
    | none => simp [wD]
    | some m =>
      cases m with
      | ml ds =>
        cases ms with
        | nil => simp [wD, asL, one]
        | cons y r => cases r <;> simp [wD, asL, one]
      | _ => simp [wD, asL]
  unfold mApp
  simp only [this, hasL_eq]
theorem s_items {R} : mItems ma s R = ma s fun w s1 => tv w s1 fun y s2 => wD y.frz.items (fun ds => R ds s2) .mk := by
  unfold mItems
  have : ∀ (o : Option (List D)) (s2 : DSt), (∃ ds, o = some ds ∧ R ds s2) = wD o (fun ds => R ds s2) .mk := fun o s2 => wD_eq
  simp only [this]
theorem s_rng1 {R} : mRng1 ms s R = ms s fun ws s1 => wD (resL s1 ws) (fun ds => int1 ds (fun j => -(2 ^ 62) ≤ j ∧ j < 2 ^ 62 ∧ R (rng 0 j.toNat) s1) .mk) .mk := by
  have : ∀ (o : Option (List D)) (k : Int → Prop), (∃ j : Int, o = some [.int j] ∧ k j) = wD o (fun ds => int1 ds k .mk) .mk := by
    intro o k
    cases o with
    | none => simp [wD]
    | some ds =>
      cases ds with
      | nil => simp [wD, int1]
      | cons d r =>
        cases r with
        | nil => cases d <;> simp [wD, int1]
        | cons _ _ => cases d <;> simp [wD, int1]
  unfold mRng1
  simp only [this]
theorem s_rng2 {R} : mRng2 ms s R = ms s fun ws s1 => wD (resL s1 ws) (fun ds => int2 ds (fun i j => (-(2 ^ 62) ≤ i ∧ i < 2 ^ 62 ∧ -(2 ^ 62) ≤ j ∧ j < 2 ^ 62) ∧ R (rng i (j - i).toNat) s1) .mk) .mk := by
  have : ∀ (o : Option (List D)) (k : Int → Int → Prop), (∃ i j : Int, o = some [.int i, .int j] ∧ k i j) = wD o (fun ds => int2 ds k .mk) .mk := by
    intro o k
    cases o with
    | none => simp [wD]
    | some ds =>
      cases ds with
      | nil => simp [wD, int2]
      | cons d r =>
        cases r with
        | nil => cases d <;> simp [wD, int2]
        | cons e r =>
          cases r with
          | nil => cases d <;> cases e <;> first | (simp [wD, int2]; done) | exact propext ⟨fun ⟨_, _, e, h⟩ => by cases e; exact h, fun h => ⟨_, _, rfl, h⟩⟩
          | cons _ _ => cases d <;> cases e <;> simp [wD, int2]
  unfold mRng2
  simp only [this]
theorem s_next : mNext D0 s = D0.nx s := rfl
theorem s_seq : mSeq a b D0 s = a { D0 with nx := b D0 } s := rfl
theorem s_break : mBreak D0 s = D0.bk s := rfl
theorem s_cont : mCont D0 s = D0.ct s := rfl
theorem s_drop : mDrop ma D0 s = ma s fun _ s' => D0.nx s' := rfl
theorem s_ret : mRet ma D0 s = ma s fun w s' => rv w s' D0.rt := rfl
theorem s_retN : mRetN D0 s = D0.rt (.fz .non) s := rfl
theorem s_ifS : mIfS c a b D0 s = c s fun x s1 => br x (a D0) .mk (b D0) .mk s1 := rfl
theorem s_asg : mAsg ma g D0 s = ma s fun w s' => tv w s' fun y s2 => g y s2 D0.nx := rfl
theorem s_gNm {y : M} {Q} : gNm i y s Q = wD s[i]? (fun sl => gset sl (Q (s.set i (.v y)))) .mk := by
  unfold gNm wD
  cases s[i]? with
  | none => rfl
  | some sl => cases sl <;> rfl
theorem s_gTup {y : M} {Q} : gTupD n gs y s Q = asT y.frz (fun ds => ds.length = n ∧ gs ds s Q) .mk := by
  have : ∀ (x : D) (k : List D → Prop), (∃ ds, x = .tup ds ∧ k ds) = asT x k .mk := by
    intro x k
    cases x <;> simp [asT]
  unfold gTupD
  simp only [this]
theorem s_gNil {Q} : gNilD [] s Q = Q s := by simp [gNilD]
theorem s_gCons {y : D} {r : List D} {Q} : gConsD g gs (y :: r) s Q = g (.fz y) s fun s' => gs r s' Q := by
  refine propext ⟨?_, fun h => ⟨y, r, rfl, h⟩⟩
  rintro ⟨a, b, e, h⟩
  cases e
  exact h
theorem s_aug : mAug i ma f D0 s = wD s[i]? (fun sl => fslot sl (fun x => ma s fun w s1 => wD (res s1 w) (fun y => opz (f x y) (fun z => gNm i z s1 D0.nx) .mk) .mk) .mk) .mk := by
  have h : ∀ (x : D) (w : W) (s1 : DSt), (∃ y z, res s1 w = some y ∧ f x y z ∧ gNm i z s1 D0.nx) = wD (res s1 w) (fun y => opz (f x y) (fun z => gNm i z s1 D0.nx) .mk) .mk := by
    intro x w s'
    cases res s' w <;> simp [wD, opz]
  unfold mAug wD fslot
  cases s[i]? with
  | none => rfl
  | some sl =>
    cases sl with
    | un => rfl
    | p _ _ => rfl
    | v m =>
      cases m with
      | fz x => simp only [h]; rfl
      | _ => rfl
theorem s_par : mPar i j ms D0 s = ms s fun ws s1 => tvs ws s1 fun ms s2 => two ms (fun y z => gNm i y s2 fun s3 => gNm j z s3 D0.nx) .mk := by
  have : ∀ (ms : List M) (k : M → M → Prop), (∃ y z, ms = [y, z] ∧ k y z) = two ms k .mk := by
    intro ms k
    cases ms with
    | nil => simp [two]
    | cons a r =>
      cases r with
      | nil => simp [two]
      | cons b r =>
        cases r with
        | nil => exact propext ⟨fun ⟨_, _, e, h⟩ => by cases e; exact h, fun h => ⟨_, _, rfl, h⟩⟩
        | cons _ _ => simp [two]
  unfold mPar
  simp only [this]
theorem s_yes {Q} : mYes s Q = Q true s := rfl
theorem s_tvs0 {Q} : tvs [] s Q = Q [] s := rfl
theorem s_tvs1 {w : W} {ws : List W} {Q} : tvs (w :: ws) s Q = tv w s fun m s1 => tvs ws s1 fun ms s2 => Q (m :: ms) s2 := rfl
theorem s_tvV {k : M} {Q} : tv (.val k) s Q = Q k s := rfl
theorem s_tvS {Q} : tv (.slot i) s Q = wD s[i]? (fun sl => vslot sl (fun m => Q (.fz m.frz) (s.set i (.v (.fz m.frz)))) .mk) .mk := by
  have e : tv (.slot i) s Q = match s[i]? with | some (.v m) => Q (.fz m.frz) (s.set i (.v (.fz m.frz))) | _ => False := rfl
  rw [e]
  cases s[i]? with
  | none => rfl
  | some sl => cases sl <;> rfl
theorem s_rvV {k : M} {Q} : rv (.val k) s Q = Q k s := rfl
theorem s_rvS {Q} : rv (.slot i) s Q = wD s[i]? (fun sl => vslot sl (fun m => Q m (s.set i .un)) .mk) .mk := by
  have e : rv (.slot i) s Q = match s[i]? with | some (.v m) => Q m (s.set i .un) | _ => False := rfl
  rw [e]
  cases s[i]? with
  | none => rfl
  | some sl => cases sl <;> rfl
theorem s_resV {k : M} : res s (.val k) = some k.frz := rfl
def Slot.fr? (sl : Slot) : Option D := match sl with
  | .un => none
  | .v m => some m.frz
  | .p _ m => some m.frz
theorem s_resS : res s (.slot i) = (s[i]?).bind Slot.fr? := by
  have e : res s (.slot i) = match s[i]? with | some sl => (match sl.m? with | some m => some m.frz | none => none) | none => none := rfl
  rw [e]
  cases s[i]? with
  | none => rfl
  | some sl => cases sl <;> rfl
theorem s_resL0 : resL s [] = some [] := rfl
theorem s_resL1 {w : W} {ws : List W} : resL s (w :: ws) = (res s w).bind fun d => (resL s ws).map fun ds => d :: ds := by
  simp only [resL]
  cases res s w with
  | none => rfl
  | some d => cases resL s ws <;> rfl
theorem s_slotM : slotM s i = (s[i]?).bind Slot.m? := by
  unfold slotM
  cases s[i]? <;> rfl
theorem s_setM {k : M} : setM s i k = s.set i ((s[i]?.getD .un).put k) := rfl
theorem s_frz {d : D} : (M.fz d).frz = d := rfl
theorem s_frzL {ds : List D} : (M.ml ds).frz = .lst ds := rfl
theorem s_fin0 {x0 : V} {P : List M → Prop} : fin false x0 s P = P [] := rfl
theorem o_iop {C : Int → Int → Prop} {g : Int → Int → D} {i j : Int} {k l} : opz (iop C g (.int i) (.int j)) k l = (C i j ∧ k (.fz (g i j))) := opz_and _ rfl
theorem b_lt {C : Int → Int → Prop} {g : Int → Int → Bool} {i j : Int} {k l} : opb (iop C (fun i j => .bl (g i j)) (.int i) (.int j)) k l = (C i j ∧ k (g i j)) := opb_and _ rfl
theorem o_addI {i j : Int} {k l} : opz (dAdd (.int i) (.int j)) k l = k (.fz (.int (i + j))) := opz_one _ rfl
theorem o_addS {i j : Str} {k l} : opz (dAdd (.str i) (.str j)) k l = (i.length + j.length ≤ sizeLine ∧ k (.fz (.str (i ++ j)))) := opz_and _ rfl
theorem o_addT {i j : List D} {k l} : opz (dAdd (.tup i) (.tup j)) k l = (i.length + j.length ≤ sizeLine ∧ k (.fz (.tup (i ++ j)))) := opz_and _ rfl
theorem o_addL {i j : List D} {k l} : opz (dAdd (.lst i) (.lst j)) k l = (i.length + j.length ≤ sizeLine ∧ k (.ml (i ++ j))) := opz_and _ rfl
theorem o_mulI {i j : Int} {k l} : opz (dMul (.int i) (.int j)) k l = (CMul i j ∧ k (.fz (.int (i * j)))) := opz_and _ rfl
theorem o_mulT {ds : List D} {j : Int} {k l} : opz (dMul (.tup ds) (.int j)) k l = ((ds ≠ [] ∧ 2 ≤ j ∧ j ≤ 1000 ∧ ds.length ≤ 1000) ∧ k (.fz (.tup (List.replicate j.toNat ds).flatten))) := opz_and _ (by funext z; simp [dMul, and_assoc])
theorem o_mulL {ds : List D} {j : Int} {k l} : opz (dMul (.lst ds) (.int j)) k l = ((-(2 ^ 63) ≤ j ∧ j < 2 ^ 63 ∧ ds.length * j.toNat ≤ sizeLine) ∧ k (.ml (List.replicate j.toNat ds).flatten)) := opz_and _ (by funext z; simp [dMul, and_assoc])
theorem at_eq {α : Type} {o : Option α} {e : α → M} {k l} : opz (fun z => ∃ d, o = some d ∧ z = e d) k l = wD o (fun d => k (e d)) .mk := by
  cases o <;> simp [opz, wD]
theorem o_ixL {ds : List D} {i : Int} {k l} : opz (dIdx (.lst ds) (.int i)) k l = wD (atI ds i) (fun d => k (.fz d)) .mk := at_eq
theorem o_ixT {ds : List D} {i : Int} {k l} : opz (dIdx (.tup ds) (.int i)) k l = wD (atI ds i) (fun d => k (.fz d)) .mk := at_eq
theorem o_ixW {ds : List D} {i : Int} {k l} : opz (dIdx (.wtu ds) (.int i)) k l = wD (atI ds i) (fun d => k (.fz d)) .mk := at_eq
theorem o_ixC {ds : List Int} {i : Int} {k l} : opz (dIdx (.scr ds) (.int i)) k l = wD (atI ds i) (fun d => k (.fz (.int d))) .mk := at_eq
theorem o_ixS {x : Str} {i : Int} {k l} : opz (dIdx (.str x) (.int i)) k l = (x.length ≤ sizeLine ∧ wD (atI x.cps.toList i) (fun d => k (.fz (.str ⟨#[d]⟩))) .mk) := by
  have : opz (dIdx (.str x) (.int i)) k l = opz (fun z => x.length ≤ sizeLine ∧ ∃ c, atI x.cps.toList i = some c ∧ z = .fz (.str ⟨#[c]⟩)) k l := rfl
  rw [this]
  cases atI x.cps.toList i <;> simp [opz, wD, and_assoc]
theorem o_slL {ds : List D} {lo hi : Option Int} {k l} : opz (dSl (.lst ds) lo hi) k l = k (.ml (cutG ds lo hi)) := opz_one _ rfl
theorem o_slT {ds : List D} {lo hi : Option Int} {k l} : opz (dSl (.tup ds) lo hi) k l = k (.fz (.tup (cutG ds lo hi))) := opz_one _ rfl
theorem o_slS {ds : Str} {lo hi : Option Int} {k l} : opz (dSl (.str ds) lo hi) k l = (ds.length ≤ sizeLine ∧ k (.fz (.str (cutS ds lo hi)))) := opz_and _ rfl
theorem o_lenL {ds : List D} {k l} : opz (dLen (.lst ds)) k l = k (.fz (.int ds.length)) := opz_one _ rfl
theorem o_lenT {ds : List D} {k l} : opz (dLen (.tup ds)) k l = k (.fz (.int ds.length)) := opz_one _ rfl
theorem o_lenW {ds : List D} {k l} : opz (dLen (.wtu ds)) k l = k (.fz (.int ds.length)) := opz_one _ rfl
theorem o_lenC {ds : List Int} {k l} : opz (dLen (.scr ds)) k l = k (.fz (.int ds.length)) := opz_one _ rfl
theorem o_lenD {ds : List (Key × D)} {k l} : opz (dLen (.dic ds)) k l = k (.fz (.int ds.length)) := opz_one _ rfl
theorem o_lenS {ds : Str} {k l} : opz (dLen (.str ds)) k l = (ds.length ≤ sizeLine ∧ k (.fz (.int ds.length))) := opz_and _ rfl
theorem o_abs {i : Int} {k l} : opz (dAbs (.int i)) k l = k (.fz (.int (if i < 0 then -i else i))) := opz_one _ rfl
theorem o_intI {i : Int} {k l} : opz (dInt (.int i)) k l = k (.fz (.int i)) := opz_one _ rfl
theorem o_intB {i : Bool} {k l} : opz (dInt (.bl i)) k l = k (.fz (.int (if i then 1 else 0))) := opz_one _ rfl
theorem o_str {i : Int} {k l} : opz (dStr (.int i)) k l = (i.natAbs.log2 < 1920 ∧ k (.fz (.str (toString i)))) := opz_and _ rfl
theorem o_list {d : D} {k l} : opz (dList d) k l = wD d.seqs (fun ds => k (.ml ds)) .mk := at_eq
theorem o_tupL {ds : List D} {k l} : opz (dTuple (.lst ds)) k l = k (.fz (.tup ds)) := opz_one _ rfl
theorem o_tupT {ds : List D} {k l} : opz (dTuple (.tup ds)) k l = k (.fz (.tup ds)) := opz_one _ rfl
theorem o_isN {d : D} {k l} : opz (dIs d .non) k l = k (.fz (.bl (match d with | .non => true | _ => false))) := opz_one _ (by cases d <;> rfl)
theorem o_isNotN {d : D} {k l} : opz (dIsNot d .non) k l = k (.fz (.bl (match d with | .non => false | _ => true))) := opz_one _ (by cases d <;> rfl)
theorem o_isTy {d : D} {T : String} {k l} : opz (dIsTy [d, .ty T]) k l = (d.tyN = some T ∧ k (.fz (.bl true))) := opz_and _ rfl
theorem o_neg {i : Int} {k l} : opz (dNeg (.int i)) k l = k (.fz (.int (-i))) := opz_one _ rfl
theorem t_non {k l} : trz .non k l = k false := by simp [trz, D.truth]
theorem t_bl {b : Bool} {k l} : trz (.bl b) k l = k b := by simp [trz, D.truth]
theorem t_int {b : Int} {k l} : trz (.int b) k l = k (b != 0) := by simp [trz, D.truth]
theorem t_str {b : Str} {k l} : trz (.str b) k l = (b.length ≤ sizeLine ∧ k ((b.length : Int) != 0)) := by simp [trz, D.truth, and_assoc]
theorem t_lst {b : List D} {k l} : trz (.lst b) k l = k (!b.isEmpty) := by simp [trz, D.truth]
theorem t_tup {b : List D} {k l} : trz (.tup b) k l = k (!b.isEmpty) := by simp [trz, D.truth]
theorem t_wtu {b : List D} {k l} : trz (.wtu b) k l = k (!b.isEmpty) := by simp [trz, D.truth]
theorem t_dic {b : List (Key × D)} {k l} : trz (.dic b) k l = k (!b.isEmpty) := by simp [trz, D.truth]
theorem i_lst {b : List D} : D.items (.lst b) = some b := rfl
theorem i_tup {b : List D} : D.items (.tup b) = some b := rfl
theorem i_wtu {b : List D} : D.items (.wtu b) = some b := rfl
theorem i_scr {b : List Int} : D.items (.scr b) = some (b.map D.int) := rfl
theorem i_str {b : Str} : D.items (.str b) = some (chars b) := rfl
def FoR (ds : List D) (g : TGd) (a : TSd) (D0 : DEnds) (s : DSt) : Prop := ∃ P : Nat → DSt → Prop, P 0 s ∧ (∀ (i : Nat) d s, ds[i]? = some d → P i s → g (.fz d) s fun s2 => a { D0 with nx := P (i + 1), ct := P (i + 1), bk := D0.nx } s2) ∧ ∀ s, P ds.length s → D0.nx s
theorem s_for {mi : TId} : mFor mi g a D0 s = mi s fun ds s1 => FoR ds g a D0 s1 := rfl
def WhR (c : TTd) (a : TSd) (D0 : DEnds) (s : DSt) : Prop := ∃ P : Nat → DSt → Prop, (∃ n, P n s) ∧ ∀ n s, P n s → c s fun b s1 => br b (a { D0 with nx := fun s' => ∃ n', n' < n ∧ P n' s', ct := fun s' => ∃ n', n' < n ∧ P n' s', bk := D0.nx }) .mk D0.nx .mk s1
theorem s_while : mWhile c a D0 s = WhR c a D0 s := rfl
def LcR (ds : List D) (g : TGd) (mt : TTd) (me : TD) (vs : List Nat) (Q : W → DSt → Prop) (l : Lock Q) (s : DSt) : Prop := ∃ P : Nat → List D → DSt → Prop, P 0 [] s ∧
  (∀ (i : Nat) d acc s, ds[i]? = some d → P i acc s → freeAt s vs = true ∧ g (.fz d) (wipeD s vs) fun s2 => mt s2 fun b s3 =>
    if b = true then me s3 fun w s4 => tv w s4 fun y s5 => acc.length < sizeLine ∧ P (i + 1) (acc ++ [y.frz]) (unw s s5 vs) else P (i + 1) acc (unw s s3 vs)) ∧
  ∀ acc s, P ds.length acc s → Q (.val (.ml acc)) s
theorem s_lc {mi : TId} {mt : TTd} {vs : List Nat} {Q} : mLc mi g mt ma vs s Q = mi s fun ds s1 => LcR ds g mt ma vs Q .mk s1 := rfl
theorem for_of {ds : List D} (P : Nat → DSt → Prop) (h0 : P 0 s) (hs : ∀ (i : Nat) d s, ds[i]? = some d → P i s → ∀ (N B : DSt → Prop) (R : M → DSt → Prop), (∀ s, P (i + 1) s → N s) → B = D0.nx → R = D0.rt → g (.fz d) s fun s2 => a ⟨N, R, B, N⟩ s2)
    (hd : ∀ s, P ds.length s → D0.nx s) : FoR ds g a D0 s :=
  ⟨P, h0, fun i d s hi hp => hs i d s hi hp _ _ _ (fun _ h => h) rfl rfl, hd⟩
theorem join (J : DSt → Prop) (h : ∀ N : DSt → Prop, (∀ s, J s → N s) → a { D0 with nx := N } s) (k : ∀ s, J s → b D0 s) : mSeq a b D0 s := h _ k
end
theorem rng_get {lo : Int} {n i : Nat} {d : D} (h : (rng lo n)[i]? = some d) : i < n ∧ d = .int (lo + (i : Nat)) := by
  unfold rng at h
  rw [List.getElem?_map] at h
  by_cases hi : i < n
  · simp [hi] at h; exact ⟨hi, h.symm⟩
  · simp [hi] at h
theorem rng_len {lo : Int} {n : Nat} : (rng lo n).length = n := by simp [rng]
theorem atI_pos {α : Type} {xs : List α} {k : Int} (d : α) (h0 : 0 ≤ k) (h1 : k < xs.length) : atI xs k = some (xs.getD k.toNat d) := by
  unfold atI ixN
  rw [if_pos h0, if_pos h1]
  have : k.toNat < xs.length := by omega
  simp [this]
theorem atI_nat {α : Type} {xs : List α} {k : Nat} {x : α} (h : xs[k]? = some x) : atI xs (k : Nat) = some x := by
  obtain ⟨hk, e⟩ := List.getElem?_eq_some_iff.mp h
  unfold atI ixN
  rw [if_pos (by omega), if_pos (by omega)]
  exact h
theorem cmul_r {i j : Int} (h0 : -(2 ^ 64) < j) (h1 : j < 2 ^ 64) : CMul i j := .inr ⟨h0, h1⟩
theorem cfd_r {i j : Int} (h0 : j ≠ 0) (h1 : j.natAbs < 1073741824) : CFd i j := .inl ⟨h0, h1⟩
theorem fmod_nn {i j : Int} (h : 0 < j) : 0 ≤ i.fmod j := Int.fmod_nonneg_of_pos _ h
theorem fmod_lt {i j : Int} (h : 0 < j) : i.fmod j < j := Int.fmod_lt_of_pos _ h
end DL
namespace DL
open PySem PySem.Spec L2
section
variable {Z : ZX} {X : Cx} {K : PySem.W.Frag} {F0 H0 F H F1 H1 F2 H2 F3 H3 F4 H4 F' H' : Hp} {A0 A A1 A2 A3 A' Av B : List Addr} {σ σ3 : L2.St} {s s1 s2 s4 s' : DSt} {v : V} {w : W} {pos : Pos} {Dn : Addr} {acc : List D} {vs : List Nat}
theorem Out.stepT (o : Out K F H A σ w s v F1 H1 B A1) (p : OutT K F1 H1 A1 σ s2 F2 H2 A2) : Out K F H A σ w s2 v F2 H2 B A2 := by
  have hx : ∀ a ∈ B, a ∉ A1 := nd_x o.nd
  refine ⟨Frm.trans (B := B) o.fr p.fr, p.sub, o.wow.keep p.fr hx, p.own, ?_⟩
  exact nd_mk (nd_l o.nd) p.nd (apart (fun a h => (o.wow.out a h).2) hx p.fr)
theorem Out.stepF (o : Out K F H A σ w s v F1 H1 B A1) (f : Frm F1 H1 [] F2 H2 []) (sb : Sub F2 H2) : Out K F H A σ w s v F2 H2 B A1 := by
  have f' : Frm F1 H1 A1 F2 H2 A1 := f.more (fun a q => nomatch q) (fun a ha => .inl ha)
  exact o.stepT ⟨f', sb, o.own.keep f fun a _ h => (nomatch h), nd_r o.nd⟩
theorem Out.app {y : V} {d : D} (o : Out K F0 H0 A0 σ (.val (.ml acc)) s (.ref Dn) F H [Dn] A) (zy : Fz K F y d) : ∃ xs, H Dn = some (.lst xs) ∧ xs.length = acc.length ∧ Out K F0 H0 A0 σ (.val (.ml (acc ++ [d]))) s (.ref Dn) F (upd H Dn (.lst (xs ++ [y]))) [Dn] A := by
  have w7 := o.wow
  cases w7 with
  | val ow7 =>
    cases ow7 with
    | @ml _ xs _ nF hH zs =>
      refine ⟨xs, hH, zs.length.symm ▸ rfl, ?_⟩
      have hx7 := nd_x o.nd
      have g8 : Frm F H [Dn] F (upd H Dn (.lst (xs ++ [y]))) [Dn] := Frm.upd hH trivial
      have sb8 : Sub F (upd H Dn (.lst (xs ++ [y]))) := o.sub.upd nF (.inr ⟨_, hH, trivial⟩)
      have ow8 : OwS K F (upd H Dn (.lst (xs ++ [y]))) σ s A := o.own.keep g8 fun a ha hb => hx7 a hb ha
      refine ⟨?_, sb8, .val (.ml nF upd_same (zs.append (.cons zy .nil))), ow8, o.nd⟩
      have f7 : Frm F0 H0 A0 F H (A ++ [Dn]) := o.fr.weak fun a ha => (List.mem_append.mp ha).elim (List.mem_append_right _) (List.mem_append_left _)
      exact (Frm.trans (B := A) f7 g8).weak fun a ha => (List.mem_append.mp ha).elim (List.mem_append_right _) (List.mem_append_left _)
theorem wipe_idem : L2.wipe (L2.wipe σ vs) vs = L2.wipe σ vs := by
  refine List.ext_getElem? fun j => ?_
  rw [wipe_get, wipe_get]
  by_cases hj : j ∈ vs
  · rw [if_pos hj, if_pos hj]; cases e : σ[j]? <;> simp
  · rw [if_neg hj, if_neg hj]
def LcR2 (ds : List D) (g : TGd) (mt : TTd) (mi1 : TId) (g1 : TGd) (mt1 : TTd) (me : TD) (vs vs1 : List Nat) (Q : W → DSt → Prop) (l : Lock Q) (s : DSt) : Prop := ∃ P : Nat → List D → DSt → Prop, P 0 [] s ∧
  (∀ (i : Nat) d acc s, ds[i]? = some d → P i acc s → freeAt s vs = true ∧ g (.fz d) (wipeD s vs) fun s2 => mt s2 fun b s3 =>
    br b (fun s3 => mi1 s3 fun ds1 s4 => ∃ P1 : Nat → List D → DSt → Prop, P1 0 acc s4 ∧
        (∀ (j : Nat) d1 acc1 s5, ds1[j]? = some d1 → P1 j acc1 s5 → freeAt s5 vs1 = true ∧ g1 (.fz d1) (wipeD s5 vs1) fun s6 => mt1 s6 fun b s7 =>
          br b (fun s7 => me s7 fun w s8 => tv w s8 fun y s9 => acc1.length < sizeLine ∧ P1 (j + 1) (acc1 ++ [y.frz]) (unw s5 s9 vs1)) .mk (fun s7 => P1 (j + 1) acc1 (unw s5 s7 vs1)) .mk s7) ∧
        ∀ acc1 s5, P1 ds1.length acc1 s5 → P (i + 1) acc1 (unw s s5 vs)) .mk (fun s3 => P (i + 1) acc (unw s s3 vs)) .mk s3) ∧
  ∀ acc s, P ds.length acc s → Q (.val (.ml acc)) s
def mLc2 (mi : TId) (g : TGd) (mt : TTd) (mi1 : TId) (g1 : TGd) (mt1 : TTd) (me : TD) (vs vs1 : List Nat) : TD := fun s Q => mi s fun ds s1 => LcR2 ds g mt mi1 g1 mt1 me vs vs1 Q .mk s1
theorem s_lc2 {mi mi1 : TId} {g g1 : TGd} {mt mt1 : TTd} {me : TD} {vs vs1 : List Nat} {Q} : mLc2 mi g mt mi1 g1 mt1 me vs vs1 s Q = mi s fun ds s1 => LcR2 ds g mt mi1 g1 mt1 me vs vs1 Q .mk s1 := rfl
end
theorem flat_take {α β : Type} {f : α → List β} {ds : List α} {i : Nat} {d : α} (h : ds[i]? = some d) : (ds.take (i + 1)).flatMap f = (ds.take i).flatMap f ++ f d := by
  rw [List.take_succ, h, List.flatMap_append]
  simp
theorem flat_len {α β : Type} {f : α → List β} {ds : List α} {i : Nat} {d : α} (h : ds[i]? = some d) : ((ds.take i).flatMap f).length + (f d).length ≤ (ds.flatMap f).length := by
  have e : ds.flatMap f = (ds.take (i + 1)).flatMap f ++ (ds.drop (i + 1)).flatMap f := by rw [← List.flatMap_append, List.take_append_drop]
  rw [e, flat_take h, List.length_append, List.length_append]
  omega
end DL
namespace DL
open PySem PySem.Spec L2
def D.sq : D → Option (Bool × List D)
  | .lst ds => some (true, ds)
  | .scr ns => some (true, ns.map D.int)
  | .tup ds => some (false, ds)
  | .wtu ds => some (false, ds)
  | _ => none
section
variable {Z : ZX} {X : Cx} {K : PySem.W.Frag} {F H : Hp} {v : V} {pos : Pos}
theorem Fz.sqAt {d : D} {b : Bool} {ds : List D} (z : Fz K F v d) (h : d.sq = some (b, ds)) : ∃ a xs, v = .ref a ∧ (if b = true then SqL K F a xs else SqT K F a xs) ∧ Fzs K F xs ds := by
  cases z with
  | lst hx zs => cases h; exact ⟨_, _, rfl, SqL.of hx, zs⟩
  | scr hx => cases h; exact ⟨_, _, rfl, hx, Fzs.ints⟩
  | tup hx zs => cases h; exact ⟨_, _, rfl, SqT.of hx, zs⟩
  | wtu hx zs => cases h; exact ⟨_, _, rfl, .inr hx, zs⟩
  | _ => cases h
def enumD (ds : List D) : List D := ds.zipIdx.map fun p => .tup [.int p.2, p.1]
def zipD (xs ys : List D) : List D := (xs.zip ys).map fun p => .tup [p.1, p.2]
theorem zipD_get {xs ys : List D} {i : Nat} {d : D} (h : (zipD xs ys)[i]? = some d) : ∃ x y, xs[i]? = some x ∧ ys[i]? = some y ∧ d = .tup [x, y] := by
  unfold zipD at h
  rw [List.getElem?_map] at h
  cases e : (xs.zip ys)[i]? with
  | none => simp [e] at h
  | some p =>
    simp [e] at h
    have := List.getElem?_zip_eq_some.mp e
    exact ⟨p.1, p.2, this.1, this.2, h.symm⟩
theorem zipD_len {xs ys : List D} : (zipD xs ys).length = min xs.length ys.length := by simp [zipD]
theorem new_pair {T : Addr} {x y : V} {a b : D} (sb : Sub F H) (hT : H T = none) (zx : Fz K F x a) (zy : Fz K F y b) : ∃ F', Frm F H [] F' (upd H T (.tup [x, y])) [] ∧ Sub F' (upd H T (.tup [x, y])) ∧ Fz K F' (.ref T) (.tup [a, b]) := by
  obtain ⟨f, s, o⟩ := new_tup (K := K) sb hT (.cons zx (.cons zy .nil))
  cases o with
  | fz z => exact ⟨_, f, s, z⟩
theorem itd_zipL {a b : Addr} {xs ys : List V} {ds es : List D} : ItD K (Itz K a b) (zipD ds es) (fun F => (SqL K F a xs ∧ Fzs K F xs ds) ∧ SqL K F b ys ∧ Fzs K F ys es) where
  mono := fun F F' s g => ⟨⟨(Sub.of s).sqL g.1.1, g.1.2.mono (Sub.of s)⟩, (Sub.of s).sqL g.2.1, g.2.2.mono (Sub.of s)⟩
  go := fun i F H sb g hi => by
    rw [zipD_len] at hi
    obtain ⟨x, hx, _⟩ := g.1.2.get (List.getElem?_eq_getElem (i := i) (by omega))
    obtain ⟨y, hy, _⟩ := g.2.2.get (List.getElem?_eq_getElem (i := i) (by omega))
    exact ⟨xs, ys, x, y, sb.sqL g.1.1, sb.sqL g.2.1, hx, hy⟩
  yld := fun i F H v H' d sb g hd hy => by
    obtain ⟨T, x, y, rfl, hT, rfl, hf, hf2⟩ := hy
    obtain ⟨e, e2, he, he2, rfl⟩ := zipD_get hd
    obtain ⟨u, hx, z⟩ := g.1.2.get he
    obtain ⟨u2, hx2, z2⟩ := g.2.2.get he2
    have h1 := hf xs (sb.sqL g.1.1)
    have h2 := hf2 ys (sb.sqL g.2.1)
    rw [hx] at h1
    rw [hx2] at h2
    cases h1
    cases h2
    exact new_pair sb hT z z2
  stop := fun F H sb g => ⟨xs, ys, sb.sqL g.1.1, sb.sqL g.2.1, by rw [zipD_len, g.1.2.length, g.2.2.length]; omega⟩
theorem itd_zipT {a b : Addr} {xs ys : List V} {ds es : List D} : ItD K (RZ.ItzT K a b) (zipD ds es) (fun F => (SqT K F a xs ∧ Fzs K F xs ds) ∧ SqT K F b ys ∧ Fzs K F ys es) where
  mono := fun F F' s g => ⟨⟨(Sub.of s).sqT g.1.1, g.1.2.mono (Sub.of s)⟩, (Sub.of s).sqT g.2.1, g.2.2.mono (Sub.of s)⟩
  go := fun i F H sb g hi => by
    rw [zipD_len] at hi
    obtain ⟨x, hx, _⟩ := g.1.2.get (List.getElem?_eq_getElem (i := i) (by omega))
    obtain ⟨y, hy, _⟩ := g.2.2.get (List.getElem?_eq_getElem (i := i) (by omega))
    exact ⟨xs, ys, x, y, sb.sqT g.1.1, sb.sqT g.2.1, hx, hy⟩
  yld := fun i F H v H' d sb g hd hy => by
    obtain ⟨T, x, y, rfl, hT, rfl, hf, hf2⟩ := hy
    obtain ⟨e, e2, he, he2, rfl⟩ := zipD_get hd
    obtain ⟨u, hx, z⟩ := g.1.2.get he
    obtain ⟨u2, hx2, z2⟩ := g.2.2.get he2
    have h1 := hf xs (sb.sqT g.1.1)
    have h2 := hf2 ys (sb.sqT g.2.1)
    rw [hx] at h1
    rw [hx2] at h2
    cases h1
    cases h2
    exact new_pair sb hT z z2
  stop := fun F H sb g => ⟨xs, ys, sb.sqT g.1.1, sb.sqT g.2.1, by rw [zipD_len, g.1.2.length, g.2.2.length]; omega⟩
def mEnum (m : TDs) : TId := fun s R => m s fun ws s1 => tvs ws s1 fun ms s2 => ∃ y, ms = [y] ∧ ∃ q, y.frz.sq = some q ∧ R (enumD q.2) s2
def mZip (m : TDs) : TId := fun s R => m s fun ws s1 => tvs ws s1 fun ms s2 => ∃ x, ∃ y, ms = [x, y] ∧ ∃ p, x.frz.sq = some p ∧ ∃ q, y.frz.sq = some q ∧ p.1 = q.1 ∧ R (zipD p.2 q.2) s2
theorem one_eq {α : Type} {x : List α} {k : α → Prop} : (∃ y, x = [y] ∧ k y) = one x k .mk := by
  cases x with
  | nil => simp [one]
  | cons a r => cases r <;> simp [one]
theorem two_eq {α : Type} {x : List α} {k : α → α → Prop} : (∃ y z, x = [y, z] ∧ k y z) = two x k .mk := by
  cases x with
  | nil => simp [two]
  | cons a r =>
    cases r with
    | nil => simp [two]
    | cons b r =>
      cases r with
      | nil => exact propext ⟨fun ⟨_, _, e, h⟩ => by cases e; exact h, fun h => ⟨_, _, rfl, h⟩⟩
      | cons _ _ => simp [two]
theorem s_enum {m : TDs} {s : DSt} {R} : mEnum m s R = m s fun ws s1 => tvs ws s1 fun ms s2 => one ms (fun y => wD y.frz.sq (fun q => R (enumD q.2) s2) .mk) .mk := by
  have : ∀ (o : Option (Bool × List D)) (k : Bool × List D → Prop), (∃ q, o = some q ∧ k q) = wD o k .mk := fun o k => wD_eq
  unfold mEnum
  simp only [one_eq, this]
theorem s_zip {m : TDs} {s : DSt} {R} : mZip m s R = m s fun ws s1 => tvs ws s1 fun ms s2 => two ms (fun x y => wD x.frz.sq (fun p => wD y.frz.sq (fun q => p.1 = q.1 ∧ R (zipD p.2 q.2) s2) .mk) .mk) .mk := by
  have : ∀ (o : Option (Bool × List D)) (k : Bool × List D → Prop), (∃ q, o = some q ∧ k q) = wD o k .mk := fun o k => wD_eq
  unfold mZip
  simp only [two_eq, this]
theorem q_lst {ds : List D} : D.sq (.lst ds) = some (true, ds) := rfl
theorem q_scr {ds : List Int} : D.sq (.scr ds) = some (true, ds.map D.int) := rfl
theorem q_tup {ds : List D} : D.sq (.tup ds) = some (false, ds) := rfl
theorem q_wtu {ds : List D} : D.sq (.wtu ds) = some (false, ds) := rfl
theorem tvs_fzT {A A1 Av : List Addr} {σ : L2.St} {ws : List W} {vs : List V} {s1 : DSt} {F1 H1 : Hp} {Qm : List M → DSt → Prop} (o : Outs K F H A σ ws s1 vs F1 H1 Av A1) (h : tvs ws s1 Qm) : ∃ ms s2 F2 A2, Qm ms s2 ∧ OutT K F H A σ s2 F2 H1 A2 ∧ Fzs K F2 vs (ms.map M.frz) := by
  obtain ⟨ms, s2, F2, A2, h2, f, sb, z, ow, nd⟩ := tvs_fz o h
  exact ⟨ms, s2, F2, A2, h2, ⟨by simpa using f, sb, ow, by simpa using nd⟩, z⟩
theorem LiftI.zip {t : TA} {m : TDs} (l : Lifts Z t m) : LiftI Z (RZ.iZipA Z.K t) (mZip m) := by
  intro σ H F A s R Rd Re h k
  refine l σ H F A s _ _ Re h fun ws s1 vs F1 H1 Av A1 h1 o1 => ?_
  obtain ⟨ms, s2, F2, A2, ⟨x, y, rfl, p, hp, q, hq, hb, r⟩, o, z⟩ := tvs_fzT o1 h1
  obtain ⟨b, ds⟩ := p
  obtain ⟨b', es⟩ := q
  cases hb
  cases z with
  | cons z zz =>
    cases zz with
    | cons z2 zz =>
      cases zz
      obtain ⟨a, xs, rfl, hs, zs⟩ := z.sqAt hp
      obtain ⟨a2, ys, rfl, hs2, zs2⟩ := z2.sqAt hq
      refine ⟨a, a2, xs, ys, rfl, ?_⟩
      cases b with
      | true =>
        simp only [if_true] at hs hs2
        exact .inl ⟨o.sub.sqL hs, o.sub.sqL hs2, k _ _ _ _ _ _ _ r o itd_zipL ⟨⟨hs, zs⟩, hs2, zs2⟩⟩
      | false =>
        simp only [Bool.false_eq_true, if_false] at hs hs2
        exact .inr ⟨o.sub.sqT hs, o.sub.sqT hs2, k _ _ _ _ _ _ _ r o itd_zipT ⟨⟨hs, zs⟩, hs2, zs2⟩⟩
end
end DL
namespace DL
open PySem PySem.Spec L2
section
variable {Z : ZX} {X : Cx} {K : PySem.W.Frag} {F H : Hp} {A : List Addr} {σ : L2.St} {s : DSt} {v : V} {pos : Pos}
theorem hu99 {k : Nat} (hr : Room k X.A) : X.A.units + 99 < cLine := by have := hr.un; omega
def mSetI (i : Nat) (mi me : TD) : TSd := fun D s => me s fun w s1 => tv w s1 fun y s2 => (∃ ds, slotM s2 i = some (.ml ds)) ∧ mi s2 fun w2 s3 => ∃ k, res s3 w2 = some (.int k) ∧ ∃ ds, slotM s3 i = some (.ml ds) ∧ ∃ j, ixN ds.length k = some j ∧ D.nx (setM s3 i (.ml (ds.set j y.frz)))
theorem s_setI {i : Nat} {mi me : TD} {D : DEnds} : mSetI i mi me D s = me s fun w s1 => tv w s1 fun y s2 => hasL (slotM s2 i) ∧ mi s2 fun w2 s3 => wD (res s3 w2) (fun x => asI x (fun k => wD (slotM s3 i) (fun m => asL m (fun ds => wD (ixN ds.length k) (fun j => D.nx (setM s3 i (.ml (ds.set j y.frz)))) .mk) .mk) .mk) .mk) .mk := by
  have h3 : ∀ (o : Option Nat) (k : Nat → Prop), (∃ q, o = some q ∧ k q) = wD o k .mk := fun o k => wD_eq
  unfold mSetI
  simp only [hasL_eq, isI_eq, isL_eq, h3]
theorem LiftS.setI {i : Nat} {ti te : TE} {mi me : TD} (li : Lift Z ti mi) (le : Lift Z te me) : LiftS Z (tAsg te (gSub (tVar i) ti rSetL)) (mSetI i mi me) := by
  intro σ H F A s D Dd R h e
  refine le σ H F A s _ _ R h fun w s1 x F1 H1 Av A1 h1 o1 => ?_
  obtain ⟨y, s2, F2, A2, ⟨⟨ds0, e0⟩, q⟩, o, z⟩ := tv_fz o1 h1
  obtain ⟨sl0, es0, em0⟩ := slotM_at e0
  obtain ⟨a0, xs0, ev0, hH0, _⟩ := o.own.mutL o.nd o.sub es0 em0
  refine ⟨.ref a0, ev0, li σ H1 F2 A2 s2 _ _ (o.rel R) q fun w2 s3 kv F3 H3 A3v A3 q3 o3 => ?_⟩
  obtain ⟨k, ek, ds, e3, j, hj, q4⟩ := q3
  obtain ⟨sl, es, em⟩ := slotM_at e3
  have zk := o3.wow.view o3.sub o3.own ek
  have nd3 := nd_r o3.nd
  obtain ⟨a, xs, ev, hH, zs, kk⟩ := o3.own.mutL nd3 o3.sub es em
  rw [ev0] at ev
  cases ev
  cases zk with
  | int =>
    have z3 : Fz Z.K F3 x y.frz := z.mono (Sub.of o3.fr.fsub)
    obtain ⟨g, sb, ow⟩ := kk (xs.set j x) (ds.set j y.frz) (zs.set z3 j)
    refine ⟨a0, xs, k, j, rfl, rfl, hH, by rw [zs.length]; exact hj, ?_⟩
    have ow' : OwS Z.K F3 (upd H3 a0 (.lst (xs.set j x))) σ (setM s3 i (.ml (ds.set j y.frz))) A3 := by
      unfold setM
      rw [es]
      exact ow
    exact e.nx _ _ _ _ A3 ((o.trans o3.t).fr.trans0 g) sb ow' nd3 q4
theorem ds_setI {i : Nat} {x : Str} {e ix : Expr} {ti te : TE} {mi me : TD} {p tp : Pos} (hN : X.N[i]? = some x) (he : DE Z X e te me) (hi : DE Z X ix ti mi) (hv : Vis X.env.scope x := by first | exact Or.inl rfl | exact Or.inr (Or.inl rfl) | exact Or.inr (Or.inr rfl)) (hd : (x == ("__debug__" : Str)) = false := by decide) (hcd : (x == ("__classdict__" : Str)) = false := by decide)
    (hsub : ∀ v, assign (.Subscript (.Name x p) ix tp) X.env v = (do
      let ov ← holding [v] (eval (.Name x p) X.env)
      let iv ← holding [v, ov] (eval ix X.env)
      standAt tp
      holding [v, ov, iv] (setItem ov iv v)
      release [v, ov, iv] []) := by intro _; rfl)
    (hs : swapsWithSole [.Subscript (.Name x p) ix tp] e pos.line X.env = pure false := by rfl) (hw : swappedStores [.Subscript (.Name x p) ix tp] e X.env = pure none := by rfl) (h1 : (assignEach [.Subscript (.Name x p) ix tp] X.env).map (·.2) = [assign (.Subscript (.Name x p) ix tp) X.env] := by rfl) :
    DS Z X (.Assign [.Subscript (.Name x p) ix tp] e pos) (tAsg te (gSub (tVar i) ti rSetL)) (mSetI i mi me) :=
  ⟨ps_asg he.pe (pg_sub (pv i hN hv hd hcd) hi.pe set_list hsub) hs hw h1, .setI hi.lf he.lf⟩
def okIn (x : D) (ds : List D) : Prop := x.py.canLay0 = true ∧ PyData.canLayAll0 (D.pys ds) = true ∧ x.py.depth ≤ 64
def memD (x : D) (ds : List D) : Bool := ds.any fun e => PyData.eqv e.py x.py
theorem memD_pys {x : D} : ∀ {ds : List D}, (D.pys ds).any (fun e => PyData.eqv e x.py) = memD x ds
  | [] => rfl
  | d :: ds => by
    unfold memD
    rw [D.pys, List.any_cons, List.any_cons]
    congr 1
    exact memD_pys
def rInA (K : PySem.W.Frag) (f : Bool → Bool) : R2 := fun x y H Q => ((∃ d ds, Dp K H x d ∧ (Dp K H y (.list ds) ∨ Dp K H y (.tuple ds)) ∧ d.canLay0 = true ∧ PyData.canLayAll0 ds = true ∧ d.depth ≤ 64 ∧ Q (.bl (f (ds.any fun z => PyData.eqv z d))) H) ∨ ∃ i j, x = .str i ∧ y = .str j ∧ Q (.bl (f (!(Builtin.Str.occurrences j i 0 j.length 1).isEmpty))) H) ∨ ∃ a o, y = .ref a ∧ DGet H a x o ∧ Q (.bl (f o.isSome)) H
theorem op_inA (hK : X.K = K) (hu : X.A.units + 99 < cLine) : OpR X (compareOp .In) (rInA K id) := by
  subst hK
  refine OpR.or2 (OpR.or2 ?_ op_in_str) ?_
  · intro pins s σ H x y v u Q I rx ry h
    obtain ⟨d, ds, hd, he, c1, c2, hdp, q⟩ := h
    obtain ⟨as, r1⟩ := Dp.reads I d x v hd rx
    have hm : X.A.units + 1 + min (PyData.depthAll ds) d.depth < cLine := by
      have := Nat.min_le_right (PyData.depthAll ds) d.depth
      omega
    rcases he with he | he
    · obtain ⟨bs, r2⟩ := Dp.reads I (.list ds) y u he ry
      exact SeqAt.in_list_reads r2 r1 c2 c1 hm ⟨.bl _, H, I, rfl, q⟩
    · obtain ⟨bs, r2⟩ := Dp.reads I (.tuple ds) y u he ry
      exact SeqAt.in_tuple_reads r2 r1 c2 c1 hm ⟨.bl _, H, I, rfl, q⟩
  · intro pins s σ H x y v u Q I rx ry h
    obtain ⟨a, o, rfl, g, q⟩ := h
    cases ry
    exact d_in (by omega) I g rx fun s' I' => ⟨.bl _, H, I', rfl, q⟩
theorem op_notInA (hK : X.K = K) (hu : X.A.units + 99 < cLine) : OpR X (compareOp .NotIn) (rInA K (!·)) := by
  subst hK
  refine OpR.or2 (OpR.or2 ?_ op_notIn_str) ?_
  · intro pins s σ H x y v u Q I rx ry h
    obtain ⟨d, ds, hd, he, c1, c2, hdp, q⟩ := h
    obtain ⟨as, r1⟩ := Dp.reads I d x v hd rx
    have hm : X.A.units + 1 + min (PyData.depthAll ds) d.depth < cLine := by
      have := Nat.min_le_right (PyData.depthAll ds) d.depth
      omega
    rcases he with he | he
    · obtain ⟨bs, r2⟩ := Dp.reads I (.list ds) y u he ry
      exact SeqAt.notIn_list_reads r2 r1 c2 c1 hm ⟨.bl _, H, I, rfl, q⟩
    · obtain ⟨bs, r2⟩ := Dp.reads I (.tuple ds) y u he ry
      exact SeqAt.notIn_tuple_reads r2 r1 c2 c1 hm ⟨.bl _, H, I, rfl, q⟩
  · intro pins s σ H x y v u Q I rx ry h
    obtain ⟨a, o, rfl, g, q⟩ := h
    cases ry
    exact d_notIn (by omega) I g rx fun s' I' => ⟨.bl _, H, I', rfl, q⟩
def inD : D → D → Bool → Prop
  | x, .lst ds, b => okIn x ds ∧ b = memD x ds
  | x, .tup ds, b => okIn x ds ∧ b = memD x ds
  | x, .wtu ds, b => okIn x ds ∧ b = memD x ds
  | .str i, .str j, b => b = !(Builtin.Str.occurrences j i 0 j.length 1).isEmpty
  | x, .dic kvs, b => ∃ o, D.look (.dic kvs) x o ∧ b = o.isSome
  | x, .dit kvs, b => ∃ o, D.look (.dit kvs) x o ∧ b = o.isSome
  | x, .dil kvs, b => ∃ o, D.look (.dil kvs) x o ∧ b = o.isSome
  | _, _, _ => False
def dIn (f : Bool → Bool) : D → D → M → Prop := fun x y z => ∃ b, inD x y b ∧ z = .fz (.bl (f b))
theorem od_inF {f : Bool → Bool} : OpD K (rInA K f) (dIn f) := by
  intro F H x y m1 m2 B1 B2 z Q sb w1 w2 ⟨b, hz, e⟩ k
  subst e
  have fin : ∀ c, c = f b → Q (.bl c) H := fun c e => by subst e; exact k _ F H [] Frm.refl sb (.fz (.bl _)) List.nodup_nil
  generalize e1 : m1.frz = d1 at hz
  generalize e2 : m2.frz = d2 at hz
  have z1 := w1.view sb
  have z2 := w2.view sb
  rw [e1] at z1
  rw [e2] at z2
  have seq : ∀ ds, (d2.py = .list (D.pys ds) ∨ d2.py = .tuple (D.pys ds)) → okIn d1 ds → b = memD d1 ds → rInA K f x y H Q := fun ds h2 ok hb => by
    refine .inl (.inl ⟨d1.py, D.pys ds, z1.dp ok.1, ?_, ok.1, ok.2.1, ok.2.2, fin _ (by rw [memD_pys, hb])⟩)
    rcases h2 with h2 | h2
    · exact .inl (h2 ▸ z2.dp (by rw [h2]; exact ok.2.1))
    · exact .inr (h2 ▸ z2.dp (by rw [h2]; exact ok.2.1))
  cases d2 with
  | lst ds => unfold inD at hz; exact seq ds (.inl rfl) hz.1 hz.2
  | tup ds => unfold inD at hz; exact seq ds (.inr rfl) hz.1 hz.2
  | wtu ds => unfold inD at hz; exact seq ds (.inr rfl) hz.1 hz.2
  | str j =>
    cases d1 with
    | str i => unfold inD at hz; cases z1; cases z2; exact .inl (.inr ⟨i, j, rfl, rfl, fin _ (by rw [hz])⟩)
    | _ => exact hz.elim
  | dic kvs =>
    obtain ⟨o, ho, rfl⟩ : ∃ o, D.look (.dic kvs) d1 o ∧ b = o.isSome := by cases d1 <;> exact hz
    obtain ⟨a, ov, rfl, g, oz⟩ := dget_ok sb w2 w1 e2 e1 ho
    exact .inr ⟨a, ov, rfl, g, fin _ (by cases ov <;> cases o <;> first | rfl | exact oz.elim)⟩
  | dit kvs =>
    obtain ⟨o, ho, rfl⟩ : ∃ o, D.look (.dit kvs) d1 o ∧ b = o.isSome := by cases d1 <;> exact hz
    obtain ⟨a, ov, rfl, g, oz⟩ := dget_ok sb w2 w1 e2 e1 ho
    exact .inr ⟨a, ov, rfl, g, fin _ (by cases ov <;> cases o <;> first | rfl | exact oz.elim)⟩
  | dil kvs =>
    obtain ⟨o, ho, rfl⟩ : ∃ o, D.look (.dil kvs) d1 o ∧ b = o.isSome := by cases d1 <;> exact hz
    obtain ⟨a, ov, rfl, g, oz⟩ := dget_ok sb w2 w1 e2 e1 ho
    exact .inr ⟨a, ov, rfl, g, fin _ (by cases ov <;> cases o <;> first | rfl | exact oz.elim)⟩
  | _ => cases d1 <;> exact hz.elim
theorem od_in : OpD K (rInA K id) (dIn id) := od_inF
theorem od_notin : OpD K (rInA K (!·)) (dIn (!·)) := od_inF
open PySem.W in
def okSort (ds : List D) : Prop := AllAlike (ds.map D.py) ∧ PySem.W.Sortable (ds.map D.py) ∧ ∀ d ∈ ds, d.py.canLay0 = true ∧ d.py.depth ≤ 64
def sortD (ds : List D) : List D := ds.mergeSort (PySem.W.dataLe false D.py)
theorem o_inL {f : Bool → Bool} {x : D} {ds : List D} {k l} : opz (dIn f x (.lst ds)) k l = (okIn x ds ∧ k (.fz (.bl (f (memD x ds))))) := opz_and _ (by
  funext z
  refine propext ⟨?_, fun ⟨h, e⟩ => ⟨memD x ds, ?_, e⟩⟩
  · rintro ⟨b, hb, rfl⟩
    have : okIn x ds ∧ b = memD x ds := by cases x <;> exact hb
    exact ⟨this.1, by rw [this.2]⟩
  · cases x <;> exact ⟨h, rfl⟩)
theorem o_inT {f : Bool → Bool} {x : D} {ds : List D} {k l} : opz (dIn f x (.tup ds)) k l = (okIn x ds ∧ k (.fz (.bl (f (memD x ds))))) := opz_and _ (by
  funext z
  refine propext ⟨?_, fun ⟨h, e⟩ => ⟨memD x ds, ?_, e⟩⟩
  · rintro ⟨b, hb, rfl⟩
    have : okIn x ds ∧ b = memD x ds := by cases x <;> exact hb
    exact ⟨this.1, by rw [this.2]⟩
  · cases x <;> exact ⟨h, rfl⟩)
end
end DL
namespace DL
open PySem PySem.Spec L2
structure Enc {α : Type} (n : Nat) (e : α → D) (ok : α → Prop) : Prop where
  can : ∀ a, ok a → (e a).py.canLay0 = true
  dep : ∀ a, ok a → (e a).py.depth ≤ n
  eqv : ∀ a b, ok a → ok b → (PyData.eqv (e a).py (e b).py = true ↔ a = b)
section
variable {α β : Type} {n : Nat} {e : α → D} {ok : α → Prop}
theorem Enc.int : Enc 0 D.int (fun _ => True) := ⟨fun _ _ => rfl, fun _ _ => Nat.le_refl _, fun a b _ _ => by simp [D.py, PyData.eqv]⟩
theorem Enc.str : Enc 0 D.str (fun x => PyData.canLay0 (.str x) = true) := ⟨fun _ h => h, fun _ _ => Nat.le_refl _, fun a b _ _ => by simp [D.py, PyData.eqv]⟩
theorem Enc.mono {m : Nat} (h : Enc n e ok) (hm : n ≤ m) : Enc m e ok := ⟨h.can, fun a o => Nat.le_trans (h.dep a o) hm, h.eqv⟩
theorem Enc.canAll (h : Enc n e ok) : ∀ (l : List α), (∀ a ∈ l, ok a) → PyData.canLayAll0 (D.pys (l.map e)) = true
  | [], _ => rfl
  | a :: l, g => by
    simp only [List.map_cons, D.pys, PyData.canLayAll0, Bool.and_eq_true]
    exact ⟨h.can a (g a (by simp)), h.canAll l fun b hb => g b (by simp [hb])⟩
theorem Enc.depAll (h : Enc n e ok) : ∀ (l : List α), (∀ a ∈ l, ok a) → PyData.depthAll (D.pys (l.map e)) ≤ n
  | [], _ => Nat.zero_le _
  | a :: l, g => by
    simp only [List.map_cons, D.pys, PyData.depthAll]
    exact Nat.max_le.mpr ⟨h.dep a (g a (by simp)), h.depAll l fun b hb => g b (by simp [hb])⟩
theorem Enc.eqvAll (h : Enc n e ok) : ∀ (l m : List α), (∀ a ∈ l, ok a) → (∀ a ∈ m, ok a) → (PyData.eqvAll (D.pys (l.map e)) (D.pys (m.map e)) = true ↔ l = m)
  | [], [], _, _ => by simp [D.pys, PyData.eqvAll]
  | [], _ :: _, _, _ => by simp [D.pys, PyData.eqvAll]
  | _ :: _, [], _, _ => by simp [D.pys, PyData.eqvAll]
  | a :: l, b :: m, g, k => by
    simp only [List.map_cons, D.pys, PyData.eqvAll, Bool.and_eq_true, List.cons.injEq]
    rw [h.eqv a b (g a (by simp)) (k b (by simp)), h.eqvAll l m (fun c hc => g c (by simp [hc])) fun c hc => k c (by simp [hc])]
theorem Enc.tups (h : Enc n e ok) : Enc (n + 1) (fun l : List α => .tup (l.map e)) (fun l => ∀ a ∈ l, ok a) :=
  ⟨fun l g => h.canAll l g, fun l g => Nat.succ_le_succ (h.depAll l g), fun l m g k => h.eqvAll l m g k⟩
theorem Enc.shaped (h : Enc n e ok) (hn : n ≤ 64) (a : α) (g : ok a) : SeqAt.shaped (e a).py = true := by
  unfold SeqAt.shaped
  rw [Bool.and_eq_true]
  exact ⟨h.can a g, by have := h.dep a g; simp; omega⟩
theorem Enc.eqB [DecidableEq α] (h : Enc n e ok) (a b : α) (g : ok a) (k : ok b) : PyData.eqv (e a).py (e b).py = decide (a = b) := by
  have := h.eqv a b g k
  by_cases hab : a = b
  · rw [this.mpr hab]; simp [hab]
  · have : PyData.eqv (e a).py (e b).py ≠ true := fun q => hab (this.mp q)
    simp [hab, this]
theorem Enc.eq [DecidableEq α] (h : Enc n e ok) (hn : n ≤ 64) (a b : α) (g : ok a) (k : ok b) : dEq (e a) (e b) (.fz (.bl (decide (a = b)))) :=
  ⟨_, .inr ⟨h.shaped hn a g, h.shaped hn b k, rfl⟩, by rw [h.eqB a b g k]⟩
theorem Enc.ne [DecidableEq α] (h : Enc n e ok) (hn : n ≤ 64) (a b : α) (g : ok a) (k : ok b) : dNe (e a) (e b) (.fz (.bl (!decide (a = b)))) :=
  ⟨_, .inr ⟨h.shaped hn a g, h.shaped hn b k, rfl⟩, by rw [h.eqB a b g k]⟩
end
theorem dEq_ii {i j : Int} {z : M} : dEq (.int i) (.int j) z = (z = .fz (.bl (decide (i = j)))) := by
  refine propext ⟨?_, fun h => h ▸ Enc.int.eq (by decide) i j trivial trivial⟩
  rintro ⟨b, hb, rfl⟩
  rcases hb with hb | ⟨_, _, rfl⟩
  · simp [D.eqS] at hb; rw [hb]
  · rw [Enc.int.eqB i j trivial trivial]
theorem dNe_ii {i j : Int} {z : M} : dNe (.int i) (.int j) z = (z = .fz (.bl (!decide (i = j)))) := by
  refine propext ⟨?_, fun h => h ▸ Enc.int.ne (by decide) i j trivial trivial⟩
  rintro ⟨b, hb, rfl⟩
  rcases hb with hb | ⟨_, _, rfl⟩
  · simp [D.eqS] at hb; rw [hb]
  · rw [Enc.int.eqB i j trivial trivial]
theorem o_eqI {i j : Int} {k l} : opz (dEq (.int i) (.int j)) k l = k (.fz (.bl (decide (i = j)))) := opz_one _ (by funext z; exact dEq_ii)
theorem o_neI {i j : Int} {k l} : opz (dNe (.int i) (.int j)) k l = k (.fz (.bl (!decide (i = j)))) := opz_one _ (by funext z; exact dNe_ii)
def tupI (l : List Int) : D := .tup (l.map .int)
end DL
namespace DL
open PySem PySem.Spec L2
def putD {κ : Type} [DecidableEq κ] (kvs : List (κ × D)) (k : κ) (d : D) : List (κ × D) :=
  if (kvs.any fun kv => decide (kv.1 = k)) = true then kvs.map (fun kv => if kv.1 = k then (kv.1, d) else kv) else kvs ++ [(k, d)]
section
variable {Z : ZX} {X : Cx} {K : PySem.W.Frag} {F H : Hp} {A : List Addr} {σ : L2.St} {s : DSt} {v : V} {d : D} {pos : Pos}
theorem Fzk.any {k : Key} : ∀ {kvs : List (Key × V)} {ds : List (Key × D)}, Fzk K F kvs ds → (kvs.any fun kv => decide (kv.1 = k)) = ds.any fun kv => decide (kv.1 = k)
  | _, _, .nil => rfl
  | _, _, .cons z r => by rw [List.any_cons, List.any_cons, Fzk.any r]
theorem Fzk.repl {k : Key} (zv : Fz K F v d) : ∀ {kvs : List (Key × V)} {ds : List (Key × D)}, Fzk K F kvs ds → Fzk K F (kvs.map fun kv => if kv.1 = k then (kv.1, v) else kv) (ds.map fun kv => if kv.1 = k then (kv.1, d) else kv)
  | _, _, .nil => .nil
  | _, _, .cons (k := j) z r => by
    rw [List.map_cons, List.map_cons]
    by_cases h : j = k
    · simp only [h, if_true]; exact .cons zv (Fzk.repl zv r)
    · simp only [h, if_false]; exact .cons z (Fzk.repl zv r)
theorem Fzk.app {k : Key} (zv : Fz K F v d) : ∀ {kvs : List (Key × V)} {ds : List (Key × D)}, Fzk K F kvs ds → Fzk K F (kvs ++ [(k, v)]) (ds ++ [(k, d)])
  | _, _, .nil => .cons zv .nil
  | _, _, .cons z r => .cons z (Fzk.app zv r)
theorem Fzk.put {k : Key} {kvs : List (Key × V)} {ds : List (Key × D)} (z : Fzk K F kvs ds) (zv : Fz K F v d) : Fzk K F (putK kvs k v) (putD ds k d) := by
  unfold putK putD
  rw [z.any]
  split
  · exact z.repl zv
  · exact z.app zv
theorem Fzt.any {k : List Key} : ∀ {kvs : List (List Key × V)} {ds : List (List Key × D)}, Fzt K F kvs ds → (kvs.any fun kv => decide (kv.1 = k)) = ds.any fun kv => decide (kv.1 = k)
  | _, _, .nil => rfl
  | _, _, .cons z r => by rw [List.any_cons, List.any_cons, Fzt.any r]
theorem Fzt.repl {k : List Key} (zv : Fz K F v d) : ∀ {kvs : List (List Key × V)} {ds : List (List Key × D)}, Fzt K F kvs ds → Fzt K F (kvs.map fun kv => if kv.1 = k then (kv.1, v) else kv) (ds.map fun kv => if kv.1 = k then (kv.1, d) else kv)
  | _, _, .nil => .nil
  | _, _, .cons (k := j) z r => by
    rw [List.map_cons, List.map_cons]
    by_cases h : j = k
    · simp only [h, if_true]; exact .cons zv (Fzt.repl zv r)
    · simp only [h, if_false]; exact .cons z (Fzt.repl zv r)
theorem Fzt.app {k : List Key} (zv : Fz K F v d) : ∀ {kvs : List (List Key × V)} {ds : List (List Key × D)}, Fzt K F kvs ds → Fzt K F (kvs ++ [(k, v)]) (ds ++ [(k, d)])
  | _, _, .nil => .cons zv .nil
  | _, _, .cons z r => .cons z (Fzt.app zv r)
theorem Fzt.put {k : List Key} {kvs : List (List Key × V)} {ds : List (List Key × D)} (z : Fzt K F kvs ds) (zv : Fz K F v d) : Fzt K F (putK kvs k v) (putD ds k d) := by
  unfold putK putD
  rw [z.any]
  split
  · exact z.repl zv
  · exact z.app zv
theorem Fzt.length : ∀ {kvs : List (List Key × V)} {ds : List (List Key × D)}, Fzt K F kvs ds → kvs.length = ds.length
  | _, _, .nil => rfl
  | _, _, .cons z r => by rw [List.length_cons, List.length_cons, r.length]
def dput : M → D → D → Option M
  | .md kvs, x, d => x.key.map fun j => .md (putD kvs j d)
  | .mt kvs, .tup ks, d => (D.keys ks).map fun js => .mt (putD kvs js d)
  | _, _, _ => none
def M.small : M → Prop
  | .md kvs => kvs.length < sizeLine
  | .mt kvs => kvs.length < sizeLine
  | _ => False
def M.isD : M → Prop
  | .md _ => True
  | .mt _ => True
  | _ => False
theorem OwS.mutD {i : Nat} {sl : Slot} {m m' : M} {x : D} {y : D} {kv yv : V} (ow : OwS K F H σ s A) (nd : A.Nodup) (sb : Sub F H) (es : s[i]? = some sl) (em : sl.m? = some m) (hsm : m.small) (hp : dput m x y = some m') (zk : Fz K H kv x) (zy : Fz K F yv y) :
    ∃ a H', σ[i]? = some (some (.ref a)) ∧ DPut H a kv yv H' ∧ Frm F H A F H' A ∧ Sub F H' ∧ OwS K F H' σ (s.set i (sl.put m')) A := by
  obtain ⟨x0, B, C, E, ex, o, hA, kk⟩ := ow.split es em
  subst hA
  have fin : ∀ (a : Addr) (u o0 : HO), B = [a] → F a = none → H a = some o0 → Dt o0 → Ow K F (upd H a u) (.ref a) m' [a] → x0 = .ref a → Frm F H (C ++ B ++ E) F (upd H a u) (C ++ B ++ E) ∧ Sub F (upd H a u) ∧ OwS K F (upd H a u) σ (s.set i (sl.put m')) (C ++ B ++ E) := by
    rintro a u o0 rfl nF hHa dt o' rfl
    have g : Frm F H [a] F (upd H a u) [a] := Frm.upd hHa dt
    refine ⟨g.more (fun b q => ?_) (fun b hb => .inl hb), sb.upd nF (.inr ⟨_, hHa, dt⟩), kk F _ [a] [a] m' [a] g (fun b hb hq => ?_) o'⟩
    · rw [mem3]; exact .inr (.inl q)
    · rcases List.mem_append.mp hb with q | q
      · exact nd_x (nd_l nd) b q hq
      · exact nd_x nd b (List.mem_append_right _ hq) q
  cases o with
  | fz z => cases hsm
  | ml _ _ _ => cases hsm
  | mo _ _ _ => cases hsm
  | @md a kvs ds nF hH zs =>
    simp only [dput, Option.map_eq_some_iff] at hp
    obtain ⟨j, ej, rfl⟩ := hp
    have hk := zk.key ej
    subst hk
    obtain ⟨f1, f2, f3⟩ := fin a (.dK (putK kvs j yv)) _ rfl nF hH trivial (.md nF upd_same (zs.put zy)) rfl
    exact ⟨a, _, ex, DPut.k hH (by rw [zs.length]; exact hsm), f1, f2, f3⟩
  | @mt a kvs ds nF hH zs =>
    cases zk with
    | @tup b xs ks hb zks =>
      simp only [dput, Option.map_eq_some_iff] at hp
      obtain ⟨js, ej, rfl⟩ := hp
      have hx := zks.keys ej
      subst hx
      obtain ⟨f1, f2, f3⟩ := fin a (.dT (putK kvs js yv)) _ rfl nF hH trivial (.mt nF upd_same (zs.put zy)) rfl
      exact ⟨a, _, ex, .inr ⟨kvs, js, b, hH, rfl, hb, by rw [zs.length]; exact hsm, rfl⟩, f1, f2, f3⟩
    | _ => simp [dput] at hp
def hasD (o : Option M) : Prop := match o with
  | some m => m.isD
  | none => False
def mDPut (i : Nat) (mi me : TD) : TSd := fun D s => me s fun w s1 => tv w s1 fun y s2 => hasD (slotM s2 i) ∧ mi s2 fun w2 s3 => wD (res s3 w2) (fun x => wD (slotM s3 i) (fun m => m.small ∧ wD (dput m x y.frz) (fun m' => D.nx (setM s3 i m')) .mk) .mk) .mk
theorem s_dput {i : Nat} {mi me : TD} {D : DEnds} : mDPut i mi me D s = me s fun w s1 => tv w s1 fun y s2 => hasD (slotM s2 i) ∧ mi s2 fun w2 s3 => wD (res s3 w2) (fun x => wD (slotM s3 i) (fun m => m.small ∧ wD (dput m x y.frz) (fun m' => D.nx (setM s3 i m')) .mk) .mk) .mk := rfl
theorem wD_ex {α : Type} {o : Option α} {k : α → Prop} {l : Lock k} (h : wD o k l) : ∃ x, o = some x ∧ k x := by rw [← wD_eq] at h; exact h
def dgetM : M → D → Option D
  | .md kvs, x => x.key.bind fun j => valD kvs j
  | .mt kvs, .tup ks => (D.keys ks).bind fun js => valD kvs js
  | _, _ => none
def mDAug (i : Nat) (mi me : TD) (f : D → D → M → Prop) : TSd := fun D s => hasD (slotM s i) ∧ mi s fun wk s1 => wD (res s1 wk) (fun x => wD (slotM s1 i) (fun m => wD (dgetM m x) (fun d0 => me s1 fun w s2 => wD (res s2 wk) (fun x2 => wD (res s2 w) (fun y => opz (f d0 y) (fun z => wD (slotM s2 i) (fun m2 => m2.small ∧ wD (dput m2 x2 z.frz) (fun m' => D.nx (setM s2 i m')) .mk) .mk) .mk) .mk) .mk) .mk) .mk) .mk
theorem s_daug {i : Nat} {mi me : TD} {f : D → D → M → Prop} {D : DEnds} : mDAug i mi me f D s = (hasD (slotM s i) ∧ mi s fun wk s1 => wD (res s1 wk) (fun x => wD (slotM s1 i) (fun m => wD (dgetM m x) (fun d0 => me s1 fun w s2 => wD (res s2 wk) (fun x2 => wD (res s2 w) (fun y => opz (f d0 y) (fun z => wD (slotM s2 i) (fun m2 => m2.small ∧ wD (dput m2 x2 z.frz) (fun m' => D.nx (setM s2 i m')) .mk) .mk) .mk) .mk) .mk) .mk) .mk) .mk) := rfl
theorem new_dic {p : Addr} {kvs : List (Key × V)} {ds : List (Key × D)} (sb : Sub F H) (hp : H p = none) (z : Fzk K F kvs ds) : Frm F H [] F (upd H p (.dK kvs)) [p] ∧ Sub F (upd H p (.dK kvs)) ∧ Ow K F (upd H p (.dK kvs)) (.ref p) (.md ds) [p] := by
  have nF : F p = none := sb.fresh hp
  refine ⟨.ext (fun _ _ h => h) (fun a o h => ?_) (fun a ha => ?_) (fun _ _ h => .inl h), sb.upd nF (.inl hp), .md nF upd_same z⟩
  · by_cases e : a = p
    · subst e; rw [hp] at h; cases h
    · rw [upd_ne e]; exact h
  · have : a = p := by simpa using ha
    subst this
    exact .inr hp
theorem new_dit {p : Addr} {kvs : List (List Key × V)} {ds : List (List Key × D)} (sb : Sub F H) (hp : H p = none) (z : Fzt K F kvs ds) : Frm F H [] F (upd H p (.dT kvs)) [p] ∧ Sub F (upd H p (.dT kvs)) ∧ Ow K F (upd H p (.dT kvs)) (.ref p) (.mt ds) [p] := by
  have nF : F p = none := sb.fresh hp
  refine ⟨.ext (fun _ _ h => h) (fun a o h => ?_) (fun a ha => ?_) (fun _ _ h => .inl h), sb.upd nF (.inl hp), .mt nF upd_same z⟩
  · by_cases e : a = p
    · subst e; rw [hp] at h; cases h
    · rw [upd_ne e]; exact h
  · have : a = p := by simpa using ha
    subst this
    exact .inr hp
def mDNew (m : M) : TD := fun s Q => Q (.val m) s
theorem s_dnew {m : M} {Q} : mDNew m s Q = Q (.val m) s := rfl
end
end DL
namespace DL
open PySem PySem.Spec L2
section
variable {Z : ZX} {X : Cx} {K : PySem.W.Frag} {F H : Hp} {A : List Addr} {σ : L2.St} {s : DSt} {v : V} {d : D} {pos : Pos}
def flatP {α : Type} : List (α × α) → List α
  | [] => []
  | (a, b) :: r => a :: b :: flatP r
def mFlat : List (TD × TD) → TDs
  | [] => mNil
  | (a, b) :: r => mCons a (mCons b (mFlat r))
inductive LiftPs (Z : ZX) : List (TE × TE) → List (TD × TD) → Prop
  | nil : LiftPs Z [] []
  | cons {t u : TE} {m n : TD} {r : List (TE × TE)} {q : List (TD × TD)} : Lift Z t m → Lift Z u n → LiftPs Z r q → LiftPs Z ((t, u) :: r) ((m, n) :: q)
theorem LiftPs.run : ∀ {r : List (TE × TE)} {q : List (TD × TD)}, LiftPs Z r q → ∀ (H F : Hp) (A : List Addr) (s : DSt) (Q : List (V × V) → Hp → Prop) (Qd : List W → DSt → Prop), Rel Z F H σ s A → mFlat q s Qd →
    (∀ ws s' ps F' H' Av A', Qd ws s' → Outs Z.K F H A σ ws s' (flatP ps) F' H' Av A' → Q ps H') → tPairs r σ H Q
  | _, _, .nil, H, F, A, s, Q, Qd, R, h, k => k _ _ [] _ _ _ _ h ⟨Frm.refl, R.sub, .nil, R.own, R.nd⟩
  | _, _, .cons l l' rest, H, F, A, s, Q, Qd, R, h, k => by
    refine l σ H F A s _ _ R h fun w s1 v F1 H1 Av A1 h1 o1 => ?_
    refine l' σ H1 F1 A1 s1 _ _ (o1.rel R) h1 fun w2 s2 v2 F2 H2 Av2 A2 h2 o2 => ?_
    have R2 := o2.rel (o1.rel R)
    exact rest.run H2 F2 A2 s2 _ _ R2 h2 fun ws s3 ps F3 H3 Av3 A3 h3 o3 => k _ _ ((v, v2) :: ps) _ _ _ _ h3 (o1.cons (o2.cons o3))
def mkD : List M → Option (List (Key × D))
  | [] => some []
  | k :: v :: r => k.frz.key.bind fun j => (mkD r).map fun kvs => (j, v.frz) :: kvs
  | _ => none
def mergeD (kvs more : List (Key × D)) : List (Key × D) := more.foldl (fun acc kv => putD acc kv.1 kv.2) kvs
def mDisp (q : List (TD × TD)) : TD := fun s Q => mFlat q s fun ws s1 => tvs ws s1 fun ms s2 => wD (mkD ms) (fun kvs => kvs.length ≤ 15 ∧ Q (.val (.md (mergeD [] kvs))) s2) .mk
theorem s_disp {q : List (TD × TD)} {Q} : mDisp q s Q = mFlat q s fun ws s1 => tvs ws s1 fun ms s2 => wD (mkD ms) (fun kvs => kvs.length ≤ 15 ∧ Q (.val (.md (mergeD [] kvs))) s2) .mk := rfl
theorem s_flat0 {Q} : mFlat [] s Q = Q [] s := rfl
theorem s_flat1 {a b : TD} {r : List (TD × TD)} {Q} : mFlat ((a, b) :: r) s Q = mCons a (mCons b (mFlat r)) s Q := rfl
end
end DL
namespace DL
open PySem PySem.Spec L2
section
variable {Z : ZX} {X : Cx} {K : PySem.W.Frag} {F H : Hp} {A : List Addr} {σ : L2.St} {s : DSt} {v : V} {d : D} {pos : Pos}
def mNever : TSd := fun _ _ => False
theorem s_never {D0 : DEnds} : mNever D0 s = False := rfl
def mNeverE : TD := fun _ _ => False
theorem s_neverE {Q} : mNeverE s Q = False := rfl
def boolL : List D → Option (List Bool)
  | [] => some []
  | .bl b :: r => (boolL r).map fun bs => b :: bs
  | _ :: _ => none
def intL : List D → Option (List Int)
  | [] => some []
  | .int b :: r => (intL r).map fun bs => b :: bs
  | _ :: _ => none
theorem boolL_mapf {α : Type} (f : α → Bool) : ∀ l : List α, boolL (l.map fun a => .bl (f a)) = some (l.map f)
  | [] => rfl
  | b :: bs => by simp [boolL, boolL_mapf f bs]
theorem Fzs.boolE : ∀ {xs : List V} {ds : List D} {bs : List Bool}, Fzs K F xs ds → DL.boolL ds = some bs → xs = bs.map V.bl
  | _, _, bs, .nil, h => by simp [DL.boolL] at h; subst h; rfl
  | _, _, bs, .cons z r, h => by
    cases z with
    | bl b =>
      simp only [DL.boolL, Option.map_eq_some_iff] at h
      obtain ⟨bs', e, rfl⟩ := h
      rw [r.boolE e]; rfl
    | _ => simp [DL.boolL] at h
def dAll : D → M → Prop
  | .lst ds, z => ∃ bs, boolL ds = some bs ∧ z = .fz (.bl (bs.all id))
  | _, _ => False
def dAny : D → M → Prop
  | .lst ds, z => ∃ bs, boolL ds = some bs ∧ z = .fz (.bl (bs.any id))
  | _, _ => False
def dSum : D → M → Prop
  | .lst ds, z => ∃ bs, intL ds = some bs ∧ z = .fz (.int bs.sum)
  | _, _ => False
theorem o_all {ds : List D} {k l} : opz (dAll (.lst ds)) k l = wD (boolL ds) (fun bs => k (.fz (.bl (bs.all id)))) .mk := at_eq
theorem o_any {ds : List D} {k l} : opz (dAny (.lst ds)) k l = wD (boolL ds) (fun bs => k (.fz (.bl (bs.any id)))) .mk := at_eq
theorem o_sum {ds : List D} {k l} : opz (dSum (.lst ds)) k l = wD (intL ds) (fun bs => k (.fz (.int bs.sum))) .mk := at_eq
theorem cd_all : CallD K (rAll K) (f1 dAll) := CallD.one fun F H x m B z Q sb w hz k => by
  generalize e : m.frz = d at hz
  cases d with
  | lst ds =>
    obtain ⟨bs, hb, rfl⟩ := hz
    obtain ⟨a, xs, rfl, hH, zs⟩ := w.lstV sb e
    have := zs.boolE hb
    subst this
    exact ⟨a, bs, rfl, SqL.of hH, k _ F H [] Frm.refl sb (.fz (.bl _)) List.nodup_nil⟩
  | _ => exact hz.elim
theorem call_allA (hK : X.K = K) (hc : X.calm = true) : CallR X (.builtin "all") (rAll K) := by subst hK; exact cr_all hc
def dMax : List D → M → Prop
  | [.lst ds], z => ∃ bs, intL ds = some bs ∧ ∃ m, (m ∈ bs ∧ ∀ y ∈ bs, y ≤ m) ∧ z = .fz (.int m)
  | [.int i, .int j], z => z = .fz (.int (if j > i then j else i))
  | _, _ => False
def dMin : List D → M → Prop
  | [.lst ds], z => ∃ bs, intL ds = some bs ∧ ∃ m, (m ∈ bs ∧ ∀ y ∈ bs, m ≤ y) ∧ z = .fz (.int m)
  | [.int i, .int j], z => z = .fz (.int (if j < i then j else i))
  | _, _ => False
theorem o_max2 {i j : Int} {k l} : opz (dMax [.int i, .int j]) k l = k (.fz (.int (if j > i then j else i))) := opz_one _ rfl
theorem o_min2 {i j : Int} {k l} : opz (dMin [.int i, .int j]) k l = k (.fz (.int (if j < i then j else i))) := opz_one _ rfl
end
theorem bo_all : bootBuiltins "all" = some (.builtin "all") := by decide +kernel
theorem o_eqB {i j : Bool} {k l} : opz (dEq (.bl i) (.bl j)) k l = k (.fz (.bl (decide (i = j)))) := opz_one _ (by
  funext z
  refine propext ⟨?_, fun h => ⟨_, .inl rfl, h⟩⟩
  rintro ⟨b, hb, rfl⟩
  rcases hb with hb | ⟨_, _, rfl⟩
  · simp [D.eqS] at hb; rw [hb]
  · cases i <;> cases j <;> rfl)
theorem o_neB {i j : Bool} {k l} : opz (dNe (.bl i) (.bl j)) k l = k (.fz (.bl (!decide (i = j)))) := opz_one _ (by
  funext z
  refine propext ⟨?_, fun h => ⟨_, .inl rfl, h⟩⟩
  rintro ⟨b, hb, rfl⟩
  rcases hb with hb | ⟨_, _, rfl⟩
  · simp [D.eqS] at hb; rw [hb]
  · cases i <;> cases j <;> rfl)
theorem o_ixD {kvs : List (Key × D)} {x : Str} {k l} : opz (dIdx (.dic kvs) (.str x)) k l = wD (valD kvs (.inr x)) (fun d => k (.fz d)) .mk := by
  have e : (dIdx (.dic kvs) (.str x)) = fun z => ∃ d, valD kvs (.inr x) = some d ∧ z = .fz d := by
    funext z
    refine propext ⟨?_, ?_⟩
    · rintro ⟨d, ⟨j, ej, e⟩, rfl⟩
      cases ej
      exact ⟨d, e.symm, rfl⟩
    · rintro ⟨d, e, rfl⟩
      exact ⟨d, ⟨_, rfl, e.symm⟩, rfl⟩
  rw [e]
  exact at_eq
theorem o_ixDi {kvs : List (Key × D)} {x : Int} {k l} : opz (dIdx (.dic kvs) (.int x)) k l = wD (valD kvs (.inl x)) (fun d => k (.fz d)) .mk := by
  have e : (dIdx (.dic kvs) (.int x)) = fun z => ∃ d, valD kvs (.inl x) = some d ∧ z = .fz d := by
    funext z
    refine propext ⟨?_, ?_⟩
    · rintro ⟨d, ⟨j, ej, e⟩, rfl⟩
      cases ej
      exact ⟨d, e.symm, rfl⟩
    · rintro ⟨d, e, rfl⟩
      exact ⟨d, ⟨_, rfl, e.symm⟩, rfl⟩
  rw [e]
  exact at_eq
theorem p_str {kvs : List (Key × D)} {x : Str} {d : D} : dput (.md kvs) (.str x) d = some (.md (putD kvs (.inr x) d)) := rfl
theorem p_int {kvs : List (Key × D)} {x : Int} {d : D} : dput (.md kvs) (.int x) d = some (.md (putD kvs (.inl x) d)) := rfl
theorem s_frzD {kvs : List (Key × D)} : (M.md kvs).frz = .dic kvs := rfl
theorem hasD_md {kvs : List (Key × D)} : hasD (some (.md kvs)) = True := rfl
theorem small_md {kvs : List (Key × D)} : (M.md kvs).small = (kvs.length < sizeLine) := rfl
def lent (l : List (V × M)) (x0 : V) (P : List M → Prop) : Prop := match l with
  | [(x, m)] => x = x0 ∧ P [m]
  | _ => False
theorem lent1 {x x0 : V} {m : M} {P : List M → Prop} : lent [(x, m)] x0 P = (x = x0 ∧ P [m]) := rfl
theorem fin_t {x0 : V} {s : DSt} {P : List M → Prop} : fin true x0 s P = lent (pinsD s) x0 P := by
  unfold fin lent
  rfl
theorem pins_nil : pinsD [] = [] := rfl
theorem pins_p {x : V} {m : M} {s : DSt} : pinsD (.p x m :: s) = (x, m) :: pinsD s := rfl
theorem pins_v {m : M} {s : DSt} : pinsD (.v m :: s) = pinsD s := rfl
theorem pins_un {s : DSt} : pinsD (.un :: s) = pinsD s := rfl
theorem pins_free {sl : Slot} {s : DSt} (h : sl.pinned = false) : pinsD (sl :: s) = pinsD s := by
  cases sl with
  | p _ _ => cases h
  | _ => rfl
def slotL (ws : List W) (k : Nat → List W → Prop) (l : Lock k) : Prop := match ws with
  | .slot i :: r => k i r
  | _ => False
theorem slotL_s {i : Nat} {r : List W} {k l} : slotL (.slot i :: r) k l = k i r := rfl
def putB (s : DSt) (i : Nat) (ms : List M) (k : DSt → Prop) : Prop := match ms with
  | [m] => k (s.set i ((s[i]?.getD .un).put m))
  | _ => False
theorem putB_1 {s : DSt} {i : Nat} {m : M} {k} : putB s i [m] k = k (s.set i ((s[i]?.getD .un).put m)) := rfl
theorem s_callIO {E : Value → Pay → DSt → Prop} {C : CT} {ms : TDs} {s : DSt} {Q} : mCallIO E C ms s Q = ms s fun ws s1 => slotL ws (fun i rest => tvs rest s1 fun ms s2 => wD (slotM s2 i) (fun m0 => C (m0 :: ms) (fun r ms' => putB s2 i ms' fun s3 => Q (.val r) s3) fun cls pl ms' => putB s2 i ms' fun s3 => E cls pl s3) .mk) .mk := by
  unfold mCallIO
  congr 1
  funext ws s1
  cases ws with
  | nil => rfl
  | cons w r =>
    cases w with
    | val m => rfl
    | fld _ _ _ => rfl
    | slot i =>
      simp only [slotL]
      congr 1
      funext ms s2
      unfold slotM wD putB
      cases s2[i]? with
      | none => rfl
      | some sl => cases sl <;> rfl
end DL
namespace DL
open PySem PySem.Spec L2
def hideS : Slot → Slot
  | .v (.fz d) => .v (.fz d)
  | _ => .un
def hide (s : DSt) : DSt := s.map hideS
def mRef (K : PySem.W.Frag) (CS : Addr) (m : (Value → Pay → DSt → Prop) → TD) : TD := fun s Q =>
  m (fun cls _ _ => PySem.W.exmOne K cls (.ref CS) = some true ∧ Q (.val (.fz (.bl true))) s) (hide s) fun _ _ => Q (.val (.fz (.bl false))) s
theorem s_ref {K : PySem.W.Frag} {CS : Addr} {m : (Value → Pay → DSt → Prop) → TD} {s : DSt} {Q} : mRef K CS m s Q = m (fun cls _ _ => PySem.W.exmOne K cls (.ref CS) = some true ∧ Q (.val (.fz (.bl true))) s) (hide s) fun _ _ => Q (.val (.fz (.bl false))) s := rfl
end DL
namespace DL
open PySem PySem.Spec L2
end DL
namespace DL
open PySem PySem.Spec L2
section
variable {Z : ZX} {X : Cx} {pos : Pos}
def mRaise (D : Value → Pay → DSt → Prop) (c : Value) : TSd := fun _ s => D c none s
theorem s_raise {D : Value → Pay → DSt → Prop} {c : Value} {D0 : DEnds} {s : DSt} : mRaise D c D0 s = D c none s := rfl
theorem LiftS.raise {c : Value} : LiftS Z (fun _ σ H => Z.W c none σ H) (mRaise Z.D c) := by
  intro σ H F A s D Dd R h e
  exact R.ex.im c none none σ s F H A Frm.refl R.sub R.own R.nd trivial h
theorem ds_raise {e : Expr} {c : Value} (hc : X.calm = true) (tk : Takes X Z.W) (he : PMk X e (fun _ H Q => Q c none H)) : DS Z X (.Raise (some e) none pos) (fun _ σ H => Z.W c none σ H) (mRaise Z.D c) :=
  ⟨ps_raise hc tk he, .raise⟩
structure ExcC (K : PySem.W.Frag) (mg : Str → Option Value) (x : Str) (C : Addr) : Prop where
  mgc : mg x = some (.ref C)
  exc : PySem.W.excIn K C [.type "ValueError", .type "Exception", .type "BaseException", .type "object"] "ValueError.__new__" = true
  kp : PySem.W.keepIn K (.ref C) = true
  sub : PySem.W.subIn K (.ref C) (.type "BaseException") = some true
  ty : PySem.W.typeIn K (.ref C) = some (.type "type")
  ex : PySem.W.exmOne K (.ref C) (.ref C) = some true
theorem ds_raiseC {x m : Str} {j : Nat} {p p2 cp : Pos} {C : Addr} (e : ExcC X.K X.mg x C) (hc : X.calm = true) (tk : Takes X Z.W) (hg : Gl X x) (hdb : (x == ("__debug__" : Str)) = false := by decide) : DS Z X (.Raise (some (.Call (.Name x p) [.Constant (.str m) j p2] [] cp)) none pos) (fun _ σ H => Z.W (.ref C) none σ H) (mRaise Z.D (.ref C)) :=
  ds_raise hc tk (pmk_own PySem.F.excBase_ValueError e.exc e.mgc e.kp (raises_own e.sub e.ty) hg hdb)
end
end DL
namespace DL
open PySem PySem.Spec L2
theorem exm_of {K : PySem.W.Frag} {C : Addr} (b : PySem.W.subIn K (.ref C) (.type "BaseException") = some true) (i : PySem.W.isClsIn K C = true) (t : PySem.W.typeIn K (.ref C) = some (.type "type")) (s : PySem.W.subIn K (.ref C) (.ref C) = some true) : PySem.W.exmOne K (.ref C) (.ref C) = some true := by
  unfold PySem.W.exmOne PySem.W.kitCls
  have hi : (PySem.W.clsIn K C).isSome = true := i
  simp [b, t, s, hi]
end DL
namespace DL
open PySem PySem.Spec L2
section
variable {Z : ZX} {X : Cx} {pos : Pos}
abbrev TRg := DSt → (Int → Int → DSt → Prop) → Prop
def mRg1 (m : TD) : TRg := fun s R => m s fun w s1 => ∃ j : Int, res s1 w = some (.int j) ∧ R 0 j s1
def mRg2 (ma mb : TD) : TRg := fun s R => ma s fun wa s1 => mb s1 fun wb s2 => ∃ x y, res s2 wa = some x ∧ res s2 wb = some y ∧ ∃ i j : Int, x = .int i ∧ y = .int j ∧ R i j s2
def mTupRg (m : TRg) : TD := fun s Q => m s fun a b s1 => RgOk a b ∧ Q (.val (.fz (.tup (rng a (b - a).toNat)))) s1
def mLstRg (m : TRg) : TD := fun s Q => m s fun a b s1 => RgOk a b ∧ Q (.val (.ml (rng a (b - a).toNat))) s1
theorem s_tupRg {m : TRg} {s : DSt} {Q} : mTupRg m s Q = m s fun a b s1 => RgOk a b ∧ Q (.val (.fz (.tup (rng a (b - a).toNat)))) s1 := rfl
theorem s_lstRg {m : TRg} {s : DSt} {Q} : mLstRg m s Q = m s fun a b s1 => RgOk a b ∧ Q (.val (.ml (rng a (b - a).toNat))) s1 := rfl
theorem s_rg1 {m : TD} {s : DSt} {R} : mRg1 m s R = m s fun w s1 => wD (res s1 w) (fun x => asI x (fun j => R 0 j s1) .mk) .mk := by
  unfold mRg1
  simp only [isI_eq]
theorem s_rg2 {ma mb : TD} {s : DSt} {R} : mRg2 ma mb s R = ma s fun wa s1 => mb s1 fun wb s2 => wD (res s2 wa) (fun x => wD (res s2 wb) (fun y => asI x (fun i => asI y (fun j => R i j s2) .mk) .mk) .mk) .mk := by
  unfold mRg2
  have : ∀ (ox oy : Option D) (Q : Int → Int → Prop), (∃ x y, ox = some x ∧ oy = some y ∧ ∃ i j : Int, x = .int i ∧ y = .int j ∧ Q i j) = wD ox (fun x => wD oy (fun y => asI x (fun i => asI y (fun j => Q i j) .mk) .mk) .mk) .mk := by
    intro ox oy Q
    cases ox <;> cases oy <;> simp [wD, asI]
    rename_i x y
    cases x <;> cases y <;> simp
  simp only [this]
end
end DL
namespace DL
open PySem PySem.Spec L2
def isq (lo : Int) (n : Nat) : List Int := (List.range n).map fun i => lo + (i : Nat)
theorem rng_isq {lo : Int} {n : Nat} : rng lo n = (isq lo n).map .int := by simp [rng, isq, Function.comp_def]
theorem isq_len {lo : Int} {n : Nat} : (isq lo n).length = n := by simp [isq]
theorem isq_mem {lo x : Int} {n : Nat} : x ∈ isq lo n ↔ lo ≤ x ∧ x < lo + n := by
  simp only [isq, List.mem_map, List.mem_range]
  constructor
  · rintro ⟨i, hi, rfl⟩; omega
  · rintro ⟨h1, h2⟩; exact ⟨(x - lo).toNat, by omega, by omega⟩
theorem map_get {α β : Type} {xs : List α} {f : α → β} {i : Nat} {d : β} (h : (xs.map f)[i]? = some d) : ∃ x, xs[i]? = some x ∧ d = f x := by
  rw [List.getElem?_map, Option.map_eq_some_iff] at h
  obtain ⟨x, hx, rfl⟩ := h
  exact ⟨x, hx, rfl⟩
section
variable {α : Type} {xs : List α} {emb : α → D} {D0 : DEnds} {a : TSd} {g : TGd} {s : DSt} {mt : TTd} {me : TD} {vs : List Nat} {Q : W → DSt → Prop} {l : Lock Q}
theorem for_ofE (P : Nat → DSt → Prop) (h0 : P 0 s) (hs : ∀ (i : Nat) x s, xs[i]? = some x → P i s → ∀ (N B : DSt → Prop) (R : M → DSt → Prop), (∀ s, P (i + 1) s → N s) → B = D0.nx → R = D0.rt → g (.fz (emb x)) s fun s2 => a ⟨N, R, B, N⟩ s2)
    (hd : ∀ s, P xs.length s → D0.nx s) : FoR (xs.map emb) g a D0 s := by
  refine for_of P h0 (fun i d s hd hp => ?_) fun s h => hd s (by simpa using h)
  obtain ⟨x, hx, rfl⟩ := map_get hd
  exact hs i x s hx hp
theorem for_rng {lo : Int} {n : Nat} (P : Nat → DSt → Prop) (h0 : P 0 s) (hs : ∀ (i : Nat) s, i < n → P i s → ∀ (N B : DSt → Prop) (R : M → DSt → Prop), (∀ s, P (i + 1) s → N s) → B = D0.nx → R = D0.rt → g (.fz (.int (lo + (i : Nat)))) s fun s2 => a ⟨N, R, B, N⟩ s2)
    (hd : ∀ s, P n s → D0.nx s) : FoR (rng lo n) g a D0 s := by
  refine for_of P h0 (fun i d s hd hp => ?_) fun s h => hd s (by simpa [rng_len] using h)
  obtain ⟨hi, rfl⟩ := rng_get hd
  exact hs i s hi hp
theorem take_filter {p : α → Bool} {i : Nat} {x : α} (h : xs[i]? = some x) : (xs.take (i + 1)).filter p = (xs.take i).filter p ++ (if p x = true then [x] else []) := by
  rw [List.take_succ, h, List.filter_append]
  cases hp : p x <;> simp [hp]
theorem lcR_fmE (S : DSt → Prop) (p : α → Bool) (f : α → D) (hl : xs.length ≤ sizeLine) (h0 : S s)
    (hb : ∀ x ∈ xs, ∀ s, S s → ∀ (R : M → DSt → Prop) (R' : DSt → Prop), (∀ y s', p x = true → y.frz = f x → S s' → R y s') → (∀ s', p x = false → S s' → R' s') → freeAt s vs = true ∧ g (.fz (emb x)) (wipeD s vs) fun s2 => mt s2 fun b s3 => br b (fun s3 => me s3 fun w s4 => tv w s4 fun y s5 => R y (unw s s5 vs)) .mk (fun s3 => R' (unw s s3 vs)) .mk s3)
    (hq : ∀ s', S s' → Q (.val (.ml ((xs.filter p).map f))) s') : LcR (xs.map emb) g mt me vs Q l s := by
  refine ⟨fun i acc s => acc = ((xs.take i).filter p).map f ∧ S s, ⟨by simp, h0⟩, ?_, ?_⟩
  · rintro i d acc s hd ⟨rfl, hs⟩
    obtain ⟨x, hx, rfl⟩ := map_get hd
    have hi := (List.getElem?_eq_some_iff.mp hx).1
    have hlen : (((xs.take i).filter p).map f).length < sizeLine := by
      rw [List.length_map]
      exact Nat.lt_of_le_of_lt (List.length_filter_le _ _) (by simp; omega)
    refine hb x (List.mem_of_getElem? hx) s hs (fun y s' => (((xs.take i).filter p).map f).length < sizeLine ∧ ((xs.take i).filter p).map f ++ [y.frz] = ((xs.take (i + 1)).filter p).map f ∧ S s') (fun s' => ((xs.take i).filter p).map f = ((xs.take (i + 1)).filter p).map f ∧ S s') ?_ ?_
    · intro y s' hp e h
      refine ⟨hlen, ?_, h⟩
      rw [take_filter hx, if_pos hp, e]; simp
    · intro s' hp h
      refine ⟨?_, h⟩
      rw [take_filter hx, hp]; simp
  · rintro acc s ⟨rfl, h⟩
    rw [List.length_map, List.take_length]
    exact hq s h
theorem lcR_mapE (S : DSt → Prop) (f : α → D) (hl : xs.length ≤ sizeLine) (h0 : S s)
    (hb : ∀ x ∈ xs, ∀ s, S s → ∀ (R : M → DSt → Prop), (∀ y s', y.frz = f x → S s' → R y s') → freeAt s vs = true ∧ g (.fz (emb x)) (wipeD s vs) fun s2 => me s2 fun w s4 => tv w s4 fun y s5 => R y (unw s s5 vs))
    (hq : ∀ s', S s' → Q (.val (.ml (xs.map f))) s') : LcR (xs.map emb) g mYes me vs Q l s := by
  refine lcR_fmE S (fun _ => true) f hl h0 (fun x hx s hs R R' h1 h2 => hb x hx s hs R fun y s' e h => h1 y s' rfl e h) fun s' hs => ?_
  have := hq s' hs
  rwa [List.filter_eq_self.mpr (fun _ _ => rfl)]
end
end DL
namespace DL
open PySem PySem.Spec L2
structure EncL {α : Type} (e : α → D) (ok : α → Prop) (lt : α → α → Bool) : Prop where
  alk : ∀ a b, ok a → ok b → PySem.W.alike (e a).py (e b).py = true
  ltv : ∀ a b, ok a → ok b → PySem.W.dataLt (e a).py (e b).py = lt a b
section
variable {α β : Type} {n m : Nat} {e : α → D} {ok : α → Prop} {lt : α → α → Bool} {e' : β → D} {ok' : β → Prop} {lt' : β → β → Bool}
theorem EncL.int : EncL D.int (fun _ => True) (fun a b => decide (a < b)) := ⟨fun a b _ _ => by simp [D.py, PySem.W.alike], fun a b _ _ => by simp only [D.py]; exact PySem.W.dataLt_int a b⟩
end
end DL
namespace DL
open PySem PySem.Spec L2
section
variable {α β : Type} {xs : List α} {k : Nat}
theorem cut_to : cutG xs none (some (k : Int)) = xs.take k := by
  unfold cutG
  rw [HT.sIx_nat, HT.sIx_none]
  simp
theorem cut_from : cutG xs (some (k : Int)) none = xs.drop k := by
  unfold cutG
  rw [HT.sIx_nat, HT.sIx_none]
  by_cases h : k ≤ xs.length
  · rw [Nat.min_eq_left h]
    exact List.take_of_length_le (by simp)
  · have e : xs.drop k = [] := List.drop_eq_nil_of_le (by omega)
    rw [e, Nat.min_eq_right (by omega)]
    simp
theorem cut_from1 : cutG xs (some 1) none = xs.drop 1 := cut_from (k := 1)
theorem zip_map (f : α → D) (g : β → D) (ys : List β) : zipD (xs.map f) (ys.map g) = (xs.zip ys).map fun p => .tup [f p.1, g p.2] := by
  unfold zipD
  rw [List.zip_map]
  simp [Function.comp_def]
end
theorem ix0 {α : Type} {a : α} {l : List α} : atI (a :: l) 0 = some a := atI_nat (k := 0) rfl
theorem ix1 {α : Type} {a b : α} {l : List α} : atI (a :: b :: l) 1 = some b := atI_nat (k := 1) rfl
def int3 (x : List D) (k : Int → Int → Int → Prop) (l : Lock k) : Prop := match x with
  | [.int a, .int b, .int c] => k a b c
  | _ => False
theorem int3_3 {a b c : Int} {k : Int → Int → Int → Prop} {l} : int3 [.int a, .int b, .int c] k l = k a b c := rfl
theorem s_rng3 {ms : TDs} {s : DSt} {R} : mRng3 ms s R = ms s fun ws s1 => wD (resL s1 ws) (fun ds => int3 ds (fun i j c => ∃ n, RgC i j c n ∧ R (rngC i c n) s1) .mk) .mk := by
  have : ∀ (o : Option (List D)) (k : Int → Int → Int → Nat → Prop), (∃ (i j c : Int) (n : Nat), o = some [.int i, .int j, .int c] ∧ k i j c n) = wD o (fun ds => int3 ds (fun i j c => ∃ n, k i j c n) .mk) .mk := by
    intro o k
    refine propext ⟨?_, fun h => ?_⟩
    · rintro ⟨i, j, c, n, rfl, h⟩
      exact ⟨n, h⟩
    · cases o with
      | none => exact h.elim
      | some ds =>
        have h : int3 ds (fun i j c => ∃ n, k i j c n) .mk := h
        unfold int3 at h
        split at h
        · obtain ⟨n, h⟩ := h
          exact ⟨_, _, _, n, rfl, h⟩
        · exact h.elim
  unfold mRng3
  simp only [this]
end DL
namespace DL
open PySem PySem.Spec PyProof.Rows L2
mutual
def noL : PyData → Bool
  | .none => true
  | .bool _ => true
  | .int _ => true
  | .str _ => true
  | .tuple xs => noLs xs
  | _ => false
def noLs : List PyData → Bool
  | [] => true
  | x :: r => noL x && noLs r
end
def keyL (ds : List D) : PyData := .tuple [.int ds.length, (D.tup ds).py]
def sortLen (dss : List (List D)) : List (List D) := dss.mergeSort (PySem.W.dataLe false keyL)
def okLen (dss : List (List D)) : Prop := PySem.W.AllAlike (dss.map keyL) ∧ ∀ ds ∈ dss, noL (D.tup ds).py = true ∧ (D.tup ds).py.canLay0 = true ∧ (D.tup ds).py.depth ≤ 60
def lenOf : D → Option (List D)
  | .tup ds => some ds
  | _ => none
def lensOf : List D → Option (List (List D))
  | [] => some []
  | d :: r => (lenOf d).bind fun x => (lensOf r).map fun y => x :: y
def mSortLen (m : TD) : TD := fun s Q => m s fun w s1 => ∃ ds dss, res s1 w = some (.lst ds) ∧ lensOf ds = some dss ∧ okLen dss ∧ Q (.val (.ml ((sortLen dss).map .tup))) s1
def asDL (x : D) (k : List D → Prop) (l : Lock k) : Prop := match x with
  | .lst b => k b
  | _ => False
theorem asDL_l {b : List D} {k : List D → Prop} {l} : asDL (.lst b) k l = k b := rfl
theorem s_sortLen {m : TD} {s : DSt} {Q} : mSortLen m s Q = m s fun w s1 => wD (res s1 w) (fun x => asDL x (fun ds => wD (lensOf ds) (fun dss => okLen dss ∧ Q (.val (.ml ((sortLen dss).map .tup))) s1) .mk) .mk) .mk := by
  have key : ∀ (o : Option D) (k : List (List D) → Prop), (∃ ds dss, o = some (.lst ds) ∧ lensOf ds = some dss ∧ k dss) = wD o (fun x => asDL x (fun ds => wD (lensOf ds) k .mk) .mk) .mk := by
    intro o k
    refine propext ⟨?_, fun h => ?_⟩
    · rintro ⟨ds, dss, rfl, h1, h2⟩
      show wD (lensOf ds) k .mk
      rw [h1]
      exact h2
    · cases o with
      | none => exact h.elim
      | some x =>
        have h : asDL x (fun ds => wD (lensOf ds) k .mk) .mk := h
        cases x with
        | lst ds =>
          have h : wD (lensOf ds) k .mk := h
          cases e : lensOf ds with
          | none => rw [e] at h; exact h.elim
          | some dss => rw [e] at h; exact ⟨ds, dss, rfl, e, h⟩
        | _ => exact h.elim
  unfold mSortLen
  simp only [key]
end DL
namespace DL
open PySem PySem.Spec PyProof.Rows L2
def Bk (σb σ : L2.St) : Prop := σb.length = σ.length ∧ ∀ (j : Nat) v, σb[j]? = some (some v) → σ[j]? = some (some v)
abbrev TTail := L2.St → Hp → (Hp → Prop) → Prop
def clR (J : It) (g : TG) (tt : TT) (ta : TTail) (σ0 : L2.St) (H : Hp) (Q0 : Hp → Prop) : Prop := ∃ W : Nat → Nat → Hp → Prop, (∃ m, W 0 m H) ∧ ∀ i m H, W i m H →
  (J.stop i H ∧ Q0 H) ∨ (J.go i H ∧ ∃ Nx : Hp → Prop, (∀ H', Nx H' → ∃ m', m' < m ∧ W (i + 1) m' H') ∧ ∀ x H', J.yld i H x H' → g x σ0 H' fun σ2 H2 => Bk σ0 σ2 ∧ tt σ2 H2 fun b H3 => if b = true then ta σ2 H3 Nx else Nx H3)
theorem Bk.weak {Y : Cx} {pins : List (Addr × Obj)} {σ σb : L2.St} {H : Hp} {s : Shared} (I : L2.Inv Y pins σ H s) (b : Bk σb σ) : L2.Inv Y pins σb H s := I.weak b.1 b.2
def tDG (wi : TI) (g : TG) (tt : TT) (ta : Addr → TTail) (E0 : HO) (vs : List Nat) : TE := fun σ H Q => wi σ H fun J H1 => ∀ D, H1 D = none → clR J g tt (ta D) (wipe σ vs) (upd H1 D E0) fun H' => Q (.ref D) H'
end DL
namespace DL
open PySem PySem.Spec L2
section
variable {Z : ZX} {X : Cx} {K : PySem.W.Frag} {F0 H0 F H F1 H1 F2 H2 F3 H3 F4 H4 F' H' : Hp} {A0 A A1 A2 A3 A' Av B : List Addr} {σ σ3 : L2.St} {s s1 s2 s4 s' : DSt} {v : V} {w : W} {pos : Pos} {Dn : Addr} {acc : M} {vs : List Nat}
theorem blk_inM (o : Out K F0 H0 A0 σ (.val acc) s (.ref Dn) F H [Dn] A) (hf : freeAt s vs = true) :
    ∃ Ab, Out K F H ([Dn] ++ A) (L2.wipe σ vs) (.val acc) (wipeD s vs) (.ref Dn) F H [Dn] Ab ∧
      ∀ (σ3 : L2.St) (acc' : M) (s5 : DSt) (F5 H5 : Hp) (A5 : List Addr), L2.wipe σ3 vs = L2.wipe σ vs → Out K F H ([Dn] ++ A) σ3 (.val acc') s5 (.ref Dn) F5 H5 [Dn] A5 → ∃ A6, Out K F0 H0 A0 σ (.val acc') (DL.unw s s5 vs) (.ref Dn) F5 H5 [Dn] A6 := by
  obtain ⟨Ab, owb, hb1, hb2⟩ := o.own.wipe vs
  have hsub : ∀ a ∈ [Dn] ++ Ab, a ∈ [Dn] ++ A := fun a ha => (List.mem_append.mp ha).elim (List.mem_append_left _) fun q => List.mem_append_right _ (hb1 a q)
  refine ⟨Ab, ⟨Frm.refl.weak hsub, o.sub, ?_, owb, ?_⟩, ?_⟩
  · have w7 := o.wow
    cases w7 with
    | val ow7 => exact .val ow7
  · exact nd_mk (by simp) (hb2 (nd_r o.nd)) fun a ha hb => nd_x o.nd a ha (hb1 a hb)
  · intro σ3 acc' s5 F5 H5 A5 hw o5
    obtain ⟨A6, ow6, h6, n6⟩ := OwS.unw o5.own o.own o5.fr.fsub vs hf
    rw [unwS_eq hw] at ow6
    have f5 : Frm F0 H0 A0 F5 H5 ([Dn] ++ A5) := o.fr.trans0 o5.fr
    refine ⟨A6, f5.weak fun a ha => (List.mem_append.mp ha).elim (List.mem_append_left _) fun q => List.mem_append_right _ (h6 a q), o5.sub, ?_, ow6, ?_⟩
    · have w7 := o5.wow
      cases w7 with
      | val ow7 => exact .val ow7
    · exact nd_mk (by simp) (n6 (nd_r o5.nd)) fun a ha hb => nd_x o5.nd a ha (h6 a hb)
theorem Out.stepGM {g : TG} {gd : TGd} {x : V} {d : D} {Q : L2.St → Hp → Prop} {Qd : DSt → Prop} {σ0 : L2.St} (hσ : L2.wipe σ vs = L2.wipe σ0 vs) (go : GOnly g vs) (gm : GMono g) (lg : LiftG Z g gd) (o : Out Z.K F0 H0 A0 σ (.val acc) s (.ref Dn) F H [Dn] A) (z : Fz Z.K F x d) (h : gd (.fz d) s Qd)
    (k : ∀ σ3 s3 F3 H3 A3, L2.wipe σ3 vs = L2.wipe σ0 vs → Qd s3 → (∀ a u, F a = some u → F3 a = some u) → Out Z.K F0 H0 A0 σ3 (.val acc) s3 (.ref Dn) F3 H3 [Dn] A3 → Q σ3 H3) : g x σ H fun σ2 H2 => L2.wipe σ2 vs = L2.wipe σ0 vs ∧ Q σ2 H2 := by
  have ndA := nd_r o.nd
  refine gm x σ H _ _ (fun σ3 H3 q => ⟨q.1.trans hσ, q.2 (q.1.trans hσ)⟩) (go x σ H (fun σ3 H3 => L2.wipe σ3 vs = L2.wipe σ0 vs → Q σ3 H3) (lg σ H F [] A s x (.fz d) _ _ o.sub (.fz z) o.own (by simpa using ndA) h ?_))
  intro σ3 s3 F3 H3 A3 q3 f3 sb3 ow3 nd3 hw
  have f3' : Frm F H A F3 H3 A3 := by simpa using f3
  have hx : ∀ a ∈ [Dn], a ∉ A := nd_x o.nd
  have w7 := o.wow
  cases w7 with
  | val ow7 =>
    have w8 : WOw Z.K F H σ (.ref Dn) (.val acc) [Dn] := .val ow7
    have w9 := w8.keep f3' hx
    cases w9 with
    | val ow9 =>
      exact k σ3 s3 F3 H3 A3 hw q3 f3.fsub ⟨Frm.trans (B := [Dn]) o.fr f3', sb3, .val ow9, ow3, nd_mk (by simp) nd3 (apart (fun a h => (o.wow.out a h).2) hx f3')⟩
theorem Out.put {m' : M} {x y : D} {kv yv : V} (o : Out K F0 H0 A0 σ (.val acc) s (.ref Dn) F H [Dn] A) (hsm : acc.small) (hp : dput acc x y = some m') (zk : Fz K H kv x) (zy : Fz K F yv y) : ∃ H', DPut H Dn kv yv H' ∧ Out K F0 H0 A0 σ (.val m') s (.ref Dn) F H' [Dn] A := by
  have w7 := o.wow
  cases w7 with
  | val ow7 =>
    have ows : OwS K F H [some (.ref Dn)] [.v acc] ([Dn] ++ []) := .v ow7 .nil
    obtain ⟨a, H', e, hput, fr, sb, ow⟩ := OwS.mutD (i := 0) ows (by simp) o.sub rfl rfl hsm hp zk zy
    have e : a = Dn := by simpa using e.symm
    subst e
    have fr : Frm F H [a] F H' [a] := by simpa using fr
    have hx7 := nd_x o.nd
    have own' : OwS K F H' σ s A := o.own.keep fr fun b hb hq => hx7 b hq hb
    have f7 : Frm F0 H0 A0 F H (A ++ [a]) := o.fr.weak fun b hb => (List.mem_append.mp hb).elim (List.mem_append_right _) (List.mem_append_left _)
    refine ⟨H', hput, (Frm.trans (B := A) f7 fr).weak fun b hb => (List.mem_append.mp hb).elim (List.mem_append_right _) (List.mem_append_left _), sb, ?_, own', o.nd⟩
    have ow : OwS K F H' [some (.ref a)] [.v m'] ([a] ++ []) := ow
    generalize hL : ([a] ++ [] : List Addr) = L at ow
    cases ow with
    | v w r =>
      cases r
      have hA : ∀ L : List Addr, Ow K F H' (.ref a) m' L → [a] ++ [] = L ++ [] → Ow K F H' (.ref a) m' [a] := fun L w e => by
        have : L = [a] := by simpa using e.symm
        exact this ▸ w
      exact .val (hA _ w hL)
abbrev TTd2 := M → DSt → (M → DSt → Prop) → Prop
def ClR (ds : List D) (g : TGd) (mt : TTd) (mta : TTd2) (vs : List Nat) (acc0 : M) (Q : M → DSt → Prop) (l : Lock Q) (s : DSt) : Prop := ∃ P : Nat → M → DSt → Prop, P 0 acc0 s ∧
  (∀ (i : Nat) d acc s, ds[i]? = some d → P i acc s → freeAt s vs = true ∧ g (.fz d) (wipeD s vs) fun s2 => mt s2 fun b s3 =>
    br b (fun s3 => mta acc s3 fun acc' s4 => P (i + 1) acc' (unw s s4 vs)) .mk (fun s3 => P (i + 1) acc (unw s s3 vs)) .mk s3) ∧
  ∀ acc s, P ds.length acc s → Q acc s
def mPut (mk mv : TD) : TTd2 := fun acc s N => mk s fun wk s1 => tv wk s1 fun x s2 => mv s2 fun wv s3 => tv wv s3 fun y s4 => acc.small ∧ wD (dput acc x.frz y.frz) (fun m' => N m' s4) .mk
def mIn (mi1 : TId) (g1 : TGd) (mt1 : TTd) (mta1 : TTd2) (vs1 : List Nat) : TTd2 := fun acc s N => mi1 s fun ds1 s4 => ClR ds1 g1 mt1 mta1 vs1 acc N .mk s4
def LiftTail (Z : ZX) (Dn : Addr) (ta : TTail) (mta : TTd2) : Prop := ∀ (σ : L2.St) (F0 H0 F H : Hp) (A0 A : List Addr) (acc : M) (s : DSt) (N : Hp → Prop) (Nd : M → DSt → Prop), Out Z.K F0 H0 A0 σ (.val acc) s (.ref Dn) F H [Dn] A → TbF Z.T F → mta acc s Nd →
  (∀ acc' s' F' H' A', (∀ a u, F a = some u → F' a = some u) → TbF Z.T F' → Nd acc' s' → Out Z.K F0 H0 A0 σ (.val acc') s' (.ref Dn) F' H' [Dn] A' → N H') → ta σ H N
theorem LiftTail.put {tk tv : TE} {mk mv : TD} (lk : Lift (noxZ Z) tk mk) (lv : Lift (noxZ Z) tv mv) : LiftTail Z Dn (fun σ H N => tk σ H fun y H4 => tv σ H4 fun z H5 => ∃ H6, DPut H5 Dn y z H6 ∧ N H6) (mPut mk mv) := by
  intro σ F0 H0 F H A0 A acc s N Nd o tb h k
  refine lk σ H F A s _ _ ⟨o.sub, o.own, nd_r o.nd, nox_ex tb⟩ h fun wk s1 kv F1 H1 Ak A1 h1 o1 => ?_
  obtain ⟨x, s2, F2, A2, q2, o2, zk⟩ := tv_fz o1 h1
  have tb2 : TbF Z.T F2 := tb.frm o2.fr
  refine lv σ H1 F2 A2 s2 _ _ ⟨o2.sub, o2.own, o2.nd, nox_ex tb2⟩ q2 fun wv s3 vv F3 H3 Av3 A3 h3 o3 => ?_
  obtain ⟨y, s4, F4, A4, ⟨hsm, q4⟩, o4, zy⟩ := tv_fz o3 h3
  obtain ⟨m', hp, q5⟩ := wD_ex q4
  have oo := (o.stepT o2).stepT o4
  have zk' : Fz Z.K H3 kv x.frz := (zk.mono (Sub.of o4.fr.fsub)).mono o4.sub
  obtain ⟨H6, hput, o6⟩ := oo.put hsm hp zk' zy
  exact ⟨H6, hput, k m' s4 F4 H6 A4 (fun a u e => o4.fr.fsub a u (o2.fr.fsub a u e)) (tb2.frm o4.fr) q5 o6⟩
theorem Bk.of_wipe {σ2 σ : L2.St} (h : L2.wipe σ2 vs = L2.wipe σ vs) : Bk (L2.wipe σ vs) σ2 := ⟨by rw [← h, wipe_length], fun j v e => by rw [← h] at e; exact (wipe_some e).1⟩
theorem LiftTail.clause {ta : TTail} {mta : TTd2} {g : TG} {gd : TGd} {tt : TT} {mt : TTd} {J : It} {ds : List D} {G : Hp → Prop} {Q0 : Hp → Prop} {Qd : M → DSt → Prop} {l : Lock Qd} (go : GOnly g vs) (gm : GMono g) (lg : LiftG (noxZ Z) g gd) (lt : LiftT (noxZ Z) tt mt) (la : LiftTail Z Dn ta mta) (it : ItD Z.K J ds G)
    (o0 : Out Z.K F0 H0 A0 σ (.val acc) s (.ref Dn) F H [Dn] A) (g0 : G F) (tb : TbF Z.T F) (h : ClR ds gd mt mta vs acc Qd l s)
    (k : ∀ acc' s' F' H' A', (∀ a u, F a = some u → F' a = some u) → TbF Z.T F' → Qd acc' s' → Out Z.K F0 H0 A0 σ (.val acc') s' (.ref Dn) F' H' [Dn] A' → Q0 H') : clR J g tt ta (L2.wipe σ vs) H Q0 := by
  obtain ⟨Pv, p0, hs, hd⟩ := h
  refine ⟨fun i m H' => m = ds.length - i ∧ i ≤ ds.length ∧ ∃ F' A' s' acc', Pv i acc' s' ∧ (∀ a u, F a = some u → F' a = some u) ∧ Out Z.K F0 H0 A0 σ (.val acc') s' (.ref Dn) F' H' [Dn] A' ∧ G F' ∧ TbF Z.T F', ⟨ds.length, rfl, Nat.zero_le _, F, A, s, acc, p0, (fun _ _ e => e), o0, g0, tb⟩, ?_⟩
  rintro i m H' ⟨rfl, hi, F', A', s', acc', hp, fs, o, gg, tb'⟩
  by_cases hlt : ¬ i < ds.length
  · have hi' : i = ds.length := by omega
    subst hi'
    exact .inl ⟨it.stop F' H' o.sub gg, k _ _ _ _ _ fs tb' (hd acc' s' hp) o⟩
  have hlt : i < ds.length := Decidable.of_not_not hlt
  refine .inr ⟨it.go i F' H' o.sub gg hlt, fun H2 => ∃ F2 A2 s2 acc2, Pv (i + 1) acc2 s2 ∧ (∀ a u, F a = some u → F2 a = some u) ∧ Out Z.K F0 H0 A0 σ (.val acc2) s2 (.ref Dn) F2 H2 [Dn] A2 ∧ G F2 ∧ TbF Z.T F2, ?_, ?_⟩
  · rintro H2 ⟨F2, A2, s2, acc2, hp2, fs2, o2, g2, t2⟩
    exact ⟨ds.length - (i + 1), by omega, rfl, by omega, F2, A2, s2, acc2, hp2, fs2, o2, g2, t2⟩
  intro x H2 hy
  obtain ⟨d, hd'⟩ : ∃ d, ds[i]? = some d := ⟨ds[i], by simp [hlt]⟩
  obtain ⟨F2, f2, sb2, z⟩ := it.yld i F' H' x H2 d o.sub gg hd' hy
  obtain ⟨hfree, hg⟩ := hs i d acc' s' hd' hp
  have o2 := o.stepF f2 sb2
  have gg2 := it.mono F' F2 f2.fsub gg
  have tb2 : TbF Z.T F2 := tb'.frm f2
  obtain ⟨Ab, ob, leave⟩ := blk_inM o2 hfree
  have st := Out.stepGM (Z := noxZ Z) (vs := vs) (σ := L2.wipe σ vs) (σ0 := σ) (Q := fun σ3 H3 => tt σ3 H3 fun b H3 => if b = true then ta σ3 H3 (fun H2 => ∃ F2 A2 s2 acc2, Pv (i + 1) acc2 s2 ∧ (∀ a u, F a = some u → F2 a = some u) ∧ Out Z.K F0 H0 A0 σ (.val acc2) s2 (.ref Dn) F2 H2 [Dn] A2 ∧ G F2 ∧ TbF Z.T F2) else ∃ F2 A2 s2 acc2, Pv (i + 1) acc2 s2 ∧ (∀ a u, F a = some u → F2 a = some u) ∧ Out Z.K F0 H0 A0 σ (.val acc2) s2 (.ref Dn) F2 H3 [Dn] A2 ∧ G F2 ∧ TbF Z.T F2) wipe_idem go gm lg ob z hg ?_
  · exact gm x _ H2 _ _ (fun σ3 H3 q => ⟨Bk.of_wipe q.1, q.2⟩) st
  intro σ3 s3 F3 H3 A3 hw' q3 fs3 o3
  have gg3 := it.mono F2 F3 fs3 gg2
  have tb3 : TbF Z.T F3 := tb2.frm o3.fr
  refine lt σ3 H3 F3 A3 s3 _ _ ⟨o3.sub, o3.own, nd_r o3.nd, nox_ex tb3⟩ q3 fun b s4 F4 H4 A4 q4 t4 => ?_
  have o4 := o3.stepT t4
  have gg4 := it.mono F3 F4 t4.fr.fsub gg3
  have tb4 : TbF Z.T F4 := tb3.frm t4.fr
  have fs4 : ∀ a u, F a = some u → F4 a = some u := fun a u e => t4.fr.fsub a u (fs3 a u (f2.fsub a u (fs a u e)))
  cases b with
  | false =>
    rw [br_f] at q4
    rw [if_neg Bool.false_ne_true]
    obtain ⟨A6, o6⟩ := leave σ3 acc' s4 F4 H4 A4 hw' o4
    exact ⟨F4, A6, _, acc', q4, fs4, o6, gg4, tb4⟩
  | true =>
    rw [br_t] at q4
    rw [if_pos rfl]
    refine la σ3 _ _ F4 H4 _ A4 acc' s4 _ _ o4 tb4 q4 fun acc5 s5 F5 H5 A5 fs5 tb5 q5 o5 => ?_
    obtain ⟨A6, o6⟩ := leave σ3 acc5 s5 F5 H5 A5 hw' o5
    exact ⟨F5, A6, _, acc5, q5, fun a u e => fs5 a u (fs4 a u e), o6, it.mono F4 F5 fs5 gg4, tb5⟩
def mDC (mi : TId) (g : TGd) (mt : TTd) (mta : TTd2) (E : M) (vs : List Nat) : TD := fun s Q => mi s fun ds s1 => ClR ds g mt mta vs E (fun acc s => Q (.val acc) s) .mk s1
theorem s_dc {mi : TId} {g : TGd} {mt : TTd} {mta : TTd2} {E : M} {s : DSt} {Q} : mDC mi g mt mta E vs s Q = mi s fun ds s1 => ClR ds g mt mta vs E (fun acc s => Q (.val acc) s) .mk s1 := rfl
theorem s_put {mk mv : TD} {acc : M} {s : DSt} {N} : mPut mk mv acc s N = mk s fun wk s1 => tv wk s1 fun x s2 => mv s2 fun wv s3 => tv wv s3 fun y s4 => acc.small ∧ wD (dput acc x.frz y.frz) (fun m' => N m' s4) .mk := rfl
theorem s_in {mi1 : TId} {g1 : TGd} {mt1 : TTd} {mta1 : TTd2} {vs1 : List Nat} {acc : M} {s : DSt} {N} : mIn mi1 g1 mt1 mta1 vs1 acc s N = mi1 s fun ds1 s4 => ClR ds1 g1 mt1 mta1 vs1 acc N .mk s4 := rfl
theorem Lift.dc {wi : TI} {mi : TId} {ta : Addr → TTail} {mta : TTd2} {g : TG} {gd : TGd} {tt : TT} {mt : TTd} {E : M} {E0 : HO} (hE : (E = .md [] ∧ E0 = .dK []) ∨ (E = .mt [] ∧ E0 = .dT [])) (li : LiftI Z wi mi) (go : GOnly g vs) (gm : GMono g) (lg : LiftG (noxZ Z) g gd) (lt : LiftT (noxZ Z) tt mt) (la : ∀ Dn, LiftTail Z Dn (ta Dn) mta) :
    Lift Z (tDG wi g tt ta E0 vs) (mDC mi gd mt mta E vs) := by
  intro σ H F A s Q Qd R h k
  refine li σ H F A s _ _ R h fun ds s1 F1 H1 A1 J G h1 o1 it g1 => ?_
  intro Dn hDn
  have new : Frm F1 H1 [] F1 (upd H1 Dn E0) [Dn] ∧ Sub F1 (upd H1 Dn E0) ∧ Ow Z.K F1 (upd H1 Dn E0) (.ref Dn) E [Dn] := by
    rcases hE with ⟨rfl, rfl⟩ | ⟨rfl, rfl⟩
    · exact new_dic (K := Z.K) o1.sub hDn .nil
    · exact new_dit (K := Z.K) o1.sub hDn .nil
  obtain ⟨gn, sbn, own⟩ := new
  have f0 : Frm F H A F1 H1 ([] ++ A1) := by simpa using o1.fr
  have q0 := Out.fin (σ := σ) f0 o1.own (by simpa using o1.nd) gn sbn own (by simp)
  exact LiftTail.clause go gm lg lt (la Dn) it q0 g1 (R.ex.tb.frm o1.fr) h1 fun acc' s' F' H' A' _ _ q o => k _ _ _ _ _ _ _ q o
end
end DL
namespace DL
open PySem PySem.Spec L2
def keysI : List (Key × D) → Option (List Int)
  | [] => some []
  | (.inl i, _) :: r => (keysI r).map fun l => i :: l
  | _ => none
theorem Fzk.keys {K : PySem.W.Frag} {F : Hp} : ∀ {kvs : List (Key × V)} {ds : List (Key × D)}, Fzk K F kvs ds → kvs.map (·.1) = ds.map (·.1)
  | _, _, .nil => rfl
  | _, _, .cons a r => by simp [Fzk.keys r]
def sortI (l : List Int) : List Int := l.mergeSort fun a b => decide (a ≤ b)
def dSort2 : D → M → Prop
  | .lst ds, z => okSort ds ∧ z = .ml (sortD ds)
  | .tup ds, z => okSort ds ∧ z = .ml (sortD ds)
  | .dic kvs, z => ∃ ks, keysI kvs = some ks ∧ ks.length < 64 ∧ z = .ml ((sortI ks).map .int)
  | _, _ => False
theorem o_sort2 {ds : List D} {k l} : opz (dSort2 (.lst ds)) k l = (okSort ds ∧ k (.ml (sortD ds))) := opz_and _ rfl
theorem o_sort2T {ds : List D} {k l} : opz (dSort2 (.tup ds)) k l = (okSort ds ∧ k (.ml (sortD ds))) := opz_and _ rfl
theorem o_sort2D {ds : List (Key × D)} {k l} : opz (dSort2 (.dic ds)) k l = wD (keysI ds) (fun ks => ks.length < 64 ∧ k (.ml ((sortI ks).map .int))) .mk := by
  refine propext ⟨?_, fun h => ?_⟩
  · rintro ⟨z, ⟨ks, hk, h64, rfl⟩, q⟩
    rw [hk]
    exact ⟨h64, q⟩
  · cases e : keysI ds with
    | none => rw [e] at h; exact h.elim
    | some ks => rw [e] at h; exact ⟨_, ⟨ks, e, h.1, rfl⟩, h.2⟩
end DL
namespace DL.Prd
open PySem PySem.Spec
open Sem (wp)
theorem mro : mroOf (.type "itertools.product") = pure [.type "itertools.product", .type "object"] := by rw [mroOf_type]; kernel_rfl
theorem sub : isSubtype (.type "itertools.product") (.type "itertools.product") = pure true := by rw [isSubtype_type]; kernel_rfl
abbrev Is (h : Heap) (it p : Addr) (st : Int) (last : Value) (i j : Nat) : Prop := h.get? it = some { cls := .type "itertools.product", dict := none, data := .fields #[.ref p, .int st 0, last, .int i 0, .int j 0], slots := #[] }
end DL.Prd
namespace DL.Prd
open PySem PySem.Spec
open PySem.Builtin.Itertools
open Sem (wp)
section
variable {prog : Program} {w : World} {A : Around} {E : Value → Shared → Prop} {s : Shared}
theorem kept {it p : Addr} {st : Int} {last x y : Value} {i j : Nat} {Q : Value → Shared → Prop} (hit : Is s.heap it p st last i j)
    (h : ∀ h', Is h' it p st (.ref s.heap.objs.size) i j → h'.get? s.heap.objs.size = some { cls := .type "tuple", data := .seq #[x, y] } → (∀ b o, b ≠ it → s.heap.get? b = some o → h'.get? b = some o) → Q (.ref s.heap.objs.size) { s with heap := h' }) :
    wpAny (model prog w) A (newTuple [x, y] >>= fun t => field (.ref it) 2 >>= fun before => setField (.ref it) 2 t >>= fun _ => letGo [before] [t] >>= fun _ => pure t) Q E s := by
  have hl := Heap.lt_size hit
  refine wpAny_bind (wpAny_newTuple ?_ (by show 2 ≤ sizeLine; decide))
  have hit1 : Is (s.heap.push { cls := .type "tuple", data := .seq [x, y].toArray }) it p st last i j := Heap.get?_push_of_some _ hit
  refine wpAny_bind (wpAny_field hit1 rfl (x := last) rfl ?_)
  refine wpAny_bind (wpAny_setField hit1 rfl (by simp) ?_)
  refine wpAny_bind (wpAny_letGo (wpAny_pure ?_))
  refine h _ (Heap.get?_update_self _ hit1 rfl) ?_ fun b o hb e => ?_
  · exact (Heap.get?_update_other _ _ (Nat.ne_of_lt hl)).trans (Heap.get?_push_size _ rfl)
  · exact (Heap.get?_update_other _ _ (Ne.symm hb)).trans (Heap.get?_push_of_some _ e)
theorem stop {α : Type} {Q : α → Shared → Prop} (hh : A.handled = none) (hQ : ∀ (h' : Heap) (a : Addr), (∀ b o, s.heap.get? b = some o → h'.get? b = some o) → Shared.TypeIs { s with heap := h' } (.ref a) "StopIteration" → E (.ref a) { s with heap := h' }) :
    wpAny (model prog w) A (itStop : Sem α) Q E s := by
  show wpAny _ _ (newExc (.type "StopIteration") [] >>= _) _ _ _
  refine wpAny_bind ?_
  simp only [newExc, newTuple]
  refine wpAny_bind (wpAny_newObj_type ?_ (by size_fits))
  refine wpAny_bind (m := firstArgMember _ _) (wpAny_of_eq (a := Value.none) (by first | rfl | (simp only [firstArgMember]; rfl)) ?_)
  refine wpAny_newObj_type ?_ (by size_fits)
  simp only [raiseNew]
  refine wpAny_bind (wpAny_handled ?_)
  rw [hh]
  refine wpAny_bind (wpAny_pure (wpAny_throw ?_))
  exact hQ _ _ (fun b o e => Heap.get?_push_of_some _ (Heap.get?_push_of_some _ e)) ⟨_, Heap.get?_push_size _ rfl, rfl⟩
end
end DL.Prd
namespace DL
open PySem PySem.Spec L2
def prodD (xs ys : List D) : List D := xs.flatMap fun x => ys.map fun y => .tup [x, y]
section
variable {Z : ZX} {X : Cx} {K : PySem.W.Frag} {F H : Hp} {v : V} {pos : Pos}
def mProd (m : TDs) : TId := fun s R => m s fun ws s1 => tvs ws s1 fun ms s2 => ∃ x, ∃ y, ms = [x, y] ∧ ∃ p, x.frz.sq = some p ∧ ∃ q, y.frz.sq = some q ∧ (p.1 = true ∧ q.1 = true ∧ R (prodD p.2 q.2) s2)
theorem s_prod {m : TDs} {s : DSt} {R} : mProd m s R = m s fun ws s1 => tvs ws s1 fun ms s2 => two ms (fun x y => wD x.frz.sq (fun p => wD y.frz.sq (fun q => p.1 = true ∧ q.1 = true ∧ R (prodD p.2 q.2) s2) .mk) .mk) .mk := by
  have : ∀ (o : Option (Bool × List D)) (k : Bool × List D → Prop), (∃ q, o = some q ∧ k q) = wD o k .mk := fun o k => wD_eq
  unfold mProd
  simp only [two_eq, this]
def dBits : D → M → Prop
  | .int i, z => z = .fz (.int (Builtin.Int.intBits i : Nat))
  | _, _ => False
theorem o_bits {i : Int} {k l} : opz (dBits (.int i)) k l = k (.fz (.int (Builtin.Int.intBits i : Nat))) := opz_one _ rfl
end
end DL
namespace DL
open PySem PySem.Spec L2
def D.isDic : D → Bool
  | .dic _ => true
  | .dit _ => true
  | .dil _ => true
  | _ => false
def lookz (x y : D) (k : Option D → Prop) (l : Lock k) : Prop := ∃ o, D.look x y o ∧ k o
def mDGet (dd : D) (md mk : TD) : TD := fun s Q => md s fun wd s1 => (∃ x1, res s1 wd = some x1 ∧ x1.isDic = true ∧ mk s1 fun wk s2 => ∃ x y, res s2 wd = some x ∧ res s2 wk = some y ∧ lookz x y (fun o => Q (.val (.fz (o.getD dd))) s2) .mk)
def isDz (x : D) (p : Prop) : Prop := x.isDic = true ∧ p
theorem isDz_d {kvs : List (Key × D)} {p : Prop} : isDz (.dic kvs) p = p := by simp [isDz, D.isDic]
theorem isDz_t {kvs : List (List Key × D)} {p : Prop} : isDz (.dit kvs) p = p := by simp [isDz, D.isDic]
theorem s_dget {dd : D} {md mk : TD} {s : DSt} {Q} : mDGet dd md mk s Q = md s fun wd s1 => wD (res s1 wd) (fun x1 => isDz x1 (mk s1 fun wk s2 => wD (res s2 wd) (fun x => wD (res s2 wk) (fun y => lookz x y (fun o => Q (.val (.fz (o.getD dd))) s2) .mk) .mk) .mk)) .mk := by
  have h2 : ∀ (o1 o2 : Option D) (k : D → D → Prop), (∃ x y, o1 = some x ∧ o2 = some y ∧ k x y) = wD o1 (fun x => wD o2 (fun y => k x y) .mk) .mk := by
    intro o1 o2 k
    cases o1 <;> cases o2 <;> simp [wD]
  have h1 : ∀ (o : Option D) (k : Prop), (∃ x, o = some x ∧ x.isDic = true ∧ k) = wD o (fun x => isDz x k) .mk := by
    intro o k
    cases o <;> simp [wD, isDz]
  unfold mDGet
  simp only [h2, h1]
theorem look_i {kvs : List (Key × D)} {i : Int} {k l} : lookz (.dic kvs) (.int i) k l = k (valD kvs (.inl i)) := by
  refine propext ⟨?_, fun h => ⟨_, ⟨_, rfl, rfl⟩, h⟩⟩
  rintro ⟨o, ⟨j, e, rfl⟩, h⟩
  cases e
  exact h
theorem look_s {kvs : List (Key × D)} {x : Str} {k l} : lookz (.dic kvs) (.str x) k l = k (valD kvs (.inr x)) := by
  refine propext ⟨?_, fun h => ⟨_, ⟨_, rfl, rfl⟩, h⟩⟩
  rintro ⟨o, ⟨j, e, rfl⟩, h⟩
  cases e
  exact h
theorem look_t {kvs : List (List Key × D)} {ks : List D} {k l} : lookz (.dit kvs) (.tup ks) k l = wD (D.keys ks) (fun js => k (valD kvs js)) .mk := by
  refine propext ⟨?_, fun h => ?_⟩
  · rintro ⟨o, ⟨j, e, rfl⟩, h⟩
    rw [e]
    exact h
  · cases e : D.keys ks with
    | none => rw [e] at h; exact h.elim
    | some js => rw [e] at h; exact ⟨_, ⟨_, e, rfl⟩, h⟩
end DL
namespace DL
open PySem PySem.Spec L2
section
variable {Z : ZX} {X : Cx} {K : PySem.W.Frag} {F H : Hp} {v : V} {pos : Pos}
def mExt (i : Nat) (m : TDs) : TD := fun s Q => (∃ ds, slotM s i = some (.ml ds)) ∧ m s fun ws s1 => tvs ws s1 fun ms s2 => ∃ ds es, slotM s2 i = some (.ml ds) ∧ ms = [.ml es] ∧ ds.length + es.length ≤ sizeLine ∧ Q (.val (.fz .non)) (setM s2 i (.ml (ds ++ es)))
theorem Lift.ext {i : Nat} {t : TA} {m : TDs} (l : Lifts Z t m) : Lift Z (tBM Z.K "list" rExtend (tVar i) t) (mExt i m) := by
  intro σ H F A s Q Qd R h k
  obtain ⟨⟨ds0, e0⟩, h⟩ := h
  obtain ⟨sl0, es0, em0⟩ := slotM_at e0
  obtain ⟨a0, xs0, ev0, hH0, _⟩ := R.own.mutL R.nd R.sub es0 em0
  refine ⟨.ref a0, ev0, .inl ⟨rfl, xs0, SqL.of hH0⟩, l σ H F A s _ _ R h fun ws s1 vs F1 H1 Av A1 h1 o1 => ?_⟩
  obtain ⟨ms, s2, F2, B2, A2, ⟨ds, es', e2, rfl, hl, q⟩, f2, sb2, ol, ow2, n2, hB, hA⟩ := tvs_ok o1.wow o1.sub o1.own o1.nd h1
  obtain ⟨sl, es, em⟩ := slotM_at e2
  have nA : A2.Nodup := nd_r n2
  obtain ⟨a, xs, ev, hH, zs, kk⟩ := ow2.mutL nA sb2 es em
  rw [ev0] at ev
  cases ev
  cases ol with
  | @cons v1 _ _ _ C1 _ w1 r =>
    cases r
    cases w1 with
    | ml n hb zb =>
      rename_i b ys
      have hlen := zs.length
      have hlen2 := zb.length
      obtain ⟨g, sb, ow⟩ := kk (xs ++ ys) (ds ++ es') (zs.append zb)
      refine ⟨a0, b, xs, ys, rfl, rfl, hH, hb, by omega, ?_⟩
      have f12 : Frm F H A F2 H1 A2 := (o1.fr.trans0 f2).weak fun a h => List.mem_append_right _ h
      have fr : Frm F H A F2 (upd H1 a0 (.lst (xs ++ ys))) ([] ++ A2) := Frm.trans0 (A1 := A2) f12 (by simpa using g)
      have ow' : OwS Z.K F2 (upd H1 a0 (.lst (xs ++ ys))) σ (setM s2 i (.ml (ds ++ es'))) A2 := by
        unfold setM
        rw [es]
        exact ow
      exact k _ _ _ _ _ [] A2 q ⟨fr, sb, .val (.fz .non), ow', by simpa using nA⟩
theorem Fzs.erase : ∀ {xs : List V} {ds : List D} {k : Nat}, Fzs K F xs ds → Fzs K F (xs.eraseIdx k) (ds.eraseIdx k)
  | _, _, _, .nil => by simp; exact .nil
  | _, _, 0, .cons z zz => zz
  | _, _, k + 1, .cons z zz => .cons z (Fzs.erase zz)
end
theorem s_ext {i : Nat} {ms : TDs} {s : DSt} {Q} : mExt i ms s Q = (hasL (slotM s i) ∧ ms s fun ws s1 => tvs ws s1 fun ms s2 => wD (slotM s2 i) (fun m => asL m (fun ds => one ms (fun y => asL y (fun es => ds.length + es.length ≤ sizeLine ∧ Q (.val (.fz .non)) (setM s2 i (.ml (ds ++ es)))) .mk) .mk) .mk) .mk) := by
  have : ∀ (ms : List M) (s2 : DSt), (∃ ds es, slotM s2 i = some (.ml ds) ∧ ms = [.ml es] ∧ ds.length + es.length ≤ sizeLine ∧ Q (.val (.fz .non)) (setM s2 i (.ml (ds ++ es)))) = wD (slotM s2 i) (fun m => asL m (fun ds => one ms (fun y => asL y (fun es => ds.length + es.length ≤ sizeLine ∧ Q (.val (.fz .non)) (setM s2 i (.ml (ds ++ es)))) .mk) .mk) .mk) .mk := by
    intro ms s2
    cases slotM s2 i with
    | none => simp [wD]
    | some m =>
      cases m with
      | ml ds =>
        cases ms with
        | nil => simp [wD, asL, one]
        | cons y r =>
          cases r with
          | nil => cases y <;> simp [wD, asL, one]
          | cons _ _ => simp [wD, asL, one]
      | _ => simp [wD, asL]
  unfold mExt
  simp only [this, hasL_eq]
end DL
namespace DL
open PySem PySem.Spec L2
section
variable {Z : ZX} {X : Cx} {K : PySem.W.Frag} {F H F1 H1 F2 H2 F' H' : Hp} {A A1 A2 A' Av B : List Addr} {σ : L2.St} {s s1 s2 : DSt} {v : V} {w : W} {pos : Pos}
def asF (y : FV) (k : D → Prop) (l : Lock k) (k' : V → Prop) (l' : Lock k') : Prop := match y with
  | .fz d => k d
  | .own x _ => k' x
theorem asF_fz {d : D} {k k' l l'} : asF (.fz d) k l k' l' = k d := rfl
theorem asF_own {x : V} {m : M} {k k' l l'} : asF (.own x m) k l k' l' = k' x := rfl
def atD (ok : Addr → Prop) (f : Str) (d : D) (k : D → Prop) (l : Lock k) : Prop := match d with
  | .obj C fs => ok C ∧ wD (fs.lookup f) k l
  | _ => False
def atM (ok : Addr → Prop) (f : Str) (m : M) (k : D → Prop) (l : Lock k) (k' : V → Prop) (l' : Lock k') : Prop := match m with
  | .mo C fs => ok C ∧ wD (fs.get f) (fun y => asF y k l k' l') .mk
  | .fz d => atD ok f d k l
  | _ => False
theorem atD_obj {ok : Addr → Prop} {f : Str} {C : Addr} {fs : List (Str × D)} {k l} : atD ok f (.obj C fs) k l = (ok C ∧ wD (fs.lookup f) k l) := rfl
theorem atM_mo {ok : Addr → Prop} {f : Str} {C : Addr} {fs : MF} {k l k' l'} : atM ok f (.mo C fs) k l k' l' = (ok C ∧ wD (fs.get f) (fun y => asF y k l k' l') .mk) := rfl
theorem atM_fz {ok : Addr → Prop} {f : Str} {d : D} {k l k' l'} : atM ok f (.fz d) k l k' l' = atD ok f d k l := rfl
def atW (ok : Addr → Prop) (f : Str) (w : W) (s : DSt) (Q : W → DSt → Prop) : Prop := match w with
  | .slot i => wD (slotM s i) (fun m => atM ok f m (fun d => Q (.val (.fz d)) s) .mk (fun x => Q (.fld i f x) s) .mk) .mk
  | .val m => atM ok f m (fun d => Q (.val (.fz d)) s) .mk (fun _ => False) .mk
  | .fld _ _ _ => False
theorem s_atS {ok : Addr → Prop} {f : Str} {i : Nat} {Q} : atW ok f (.slot i) s Q = wD (slotM s i) (fun m => atM ok f m (fun d => Q (.val (.fz d)) s) .mk (fun x => Q (.fld i f x) s) .mk) .mk := rfl
theorem s_atV {ok : Addr → Prop} {f : Str} {m : M} {Q} : atW ok f (.val m) s Q = atM ok f m (fun d => Q (.val (.fz d)) s) .mk (fun _ => False) .mk := rfl
def mAttr (ok : Addr → Prop) (f : Str) (m : TD) : TD := fun s Q => m s fun w s1 => atW ok f w s1 Q
theorem s_attr {ok : Addr → Prop} {f : Str} {m : TD} {Q} : mAttr ok f m s Q = m s fun w s1 => atW ok f w s1 Q := rfl
theorem Fzf.look : ∀ {vs : List (Str × V)} {ds : List (Str × D)} {f : Str} {d : D}, Fzf K F vs ds → ds.lookup f = some d → ∃ x, vs.lookup f = some x ∧ Fz K F x d
  | _, _, f, d, .nil, h => by cases h
  | _, _, f, d, .cons (k := g) z r, h => by
    rw [List.lookup_cons] at h ⊢
    cases e : f == g with
    | true =>
      rw [e] at h
      cases h
      exact ⟨_, rfl, z⟩
    | false =>
      rw [e] at h
      exact r.look h
theorem atD_ex {ok : Addr → Prop} {f : Str} {d : D} {k l} (h : atD ok f d k l) : ∃ C fs d', d = .obj C fs ∧ ok C ∧ fs.lookup f = some d' ∧ k d' := by
  cases d with
  | obj C fs =>
    obtain ⟨h1, h2⟩ := h
    obtain ⟨d', e, q⟩ := wD_ex h2
    exact ⟨C, fs, d', rfl, h1, e, q⟩
  | _ => exact h.elim
theorem Lift.attr {ok : Addr → Prop} {f : Str} {t : TE} {m : TD} (hok : ∀ C, ok C → Cls Z.K C ∧ NoAttr Z.K C f) (l : Lift Z t m) : Lift Z (tFld Z.K t f) (mAttr ok f m) := by
  intro σ H F A s Q Qd R h k
  refine l σ H F A s _ _ R h fun w s1 v F1 H1 Av A1 h1 o1 => ?_
  have fin : ∀ (m : M) (B : List Addr) (k' : V → Prop), Ow Z.K F1 H1 v m B → atM ok f m (fun d => Qd (.val (.fz d)) s1) .mk k' .mk → (∀ x C fs, m = .mo C fs → (∃ m', fs.get f = some (.own x m')) → k' x → Q x H1) →
      ∃ a C dx fs v', v = .ref a ∧ H1 a = some (.ins C dx fs) ∧ Cls Z.K C ∧ NoAttr Z.K C f ∧ fs.lookup f = some v' ∧ Q v' H1 := by
    intro m B k' ow hm ho
    cases ow with
    | fz z =>
      obtain ⟨C, fs, d', rfl, hC, e, q⟩ := atD_ex hm
      obtain ⟨c1, c2⟩ := hok C hC
      cases z with
      | obj hx zs =>
        obtain ⟨x, ex, zx⟩ := zs.look e
        exact ⟨_, C, _, _, x, rfl, o1.sub.ins hx, c1, c2, ex, k _ _ _ _ _ _ _ q (o1.flat zx)⟩
    | mo n hx r =>
      obtain ⟨hC, q⟩ := hm
      obtain ⟨y, e, q⟩ := wD_ex q
      obtain ⟨c1, c2⟩ := hok _ hC
      obtain ⟨x, C2, ex, zx, _⟩ := r.get e
      refine ⟨_, _, _, _, x, rfl, hx, c1, c2, ex, ?_⟩
      cases zx with
      | fz zx => exact k _ _ _ _ _ _ _ q (o1.flat zx)
      | own zx => exact ho _ _ _ rfl ⟨_, e⟩ q
    | _ => exact hm.elim
  cases w with
  | fld _ _ _ => exact h1.elim
  | val m =>
    cases o1.wow with
    | val ow => exact fin m _ _ ow h1 fun _ _ _ _ _ q => q.elim
  | slot i =>
    cases o1.wow with
    | slot ev =>
      obtain ⟨m, em, q⟩ := wD_ex (l := .mk) h1
      obtain ⟨sl, e1, e2⟩ := slotM_at em
      obtain ⟨x, C, ex, ow, _⟩ := o1.own.get e1 e2
      rw [ev] at ex
      cases ex
      refine fin m _ _ ow q fun x C fs _ _ q => ?_
      exact k _ _ _ _ _ [] _ q ⟨o1.fr.weak fun a ha => List.mem_append_right _ (by simpa using ha), o1.sub, .fld, o1.own, by simpa using nd_r o1.nd⟩
theorem de_attr {e : Expr} {f : Str} {t : TE} {m : TD} (ok : Addr → Prop) (hK : X.K = Z.K) (hok : ∀ C, ok C → Cls X.K C ∧ NoAttr X.K C f) (h : DE Z X e t m) (hb : attributeBase e f X.env (eval e X.env) = eval e X.env := by rfl) : DE Z X (.Attribute e f pos) (tFld Z.K t f) (mAttr ok f m) :=
  ⟨by rw [← hK]; exact pe_fld h.pe hb, .attr (by rw [← hK]; exact hok) h.lf⟩
def asO (m : M) (k : Addr → MF → Prop) (l : Lock k) : Prop := match m with
  | .mo C fs => k C fs
  | _ => False
theorem asO_mo {C : Addr} {fs : MF} {k l} : asO (.mo C fs) k l = k C fs := rfl
theorem asO_ex {m : M} {k l} (h : asO m k l) : ∃ C fs, m = .mo C fs ∧ k C fs := by
  cases m with
  | mo C fs => exact ⟨C, fs, rfl, h⟩
  | _ => exact h.elim
def putY (y : M) (k : FV → Prop) (l : Lock k) : Prop := match y with
  | .fz d => k (.fz d)
  | m => ∀ x : V, k (.own x m)
theorem putY_fz {d : D} {k l} : putY (.fz d) k l = k (.fz d) := rfl
theorem putY_ml {ds : List D} {k l} : putY (.ml ds) k l = ∀ x : V, k (.own x (.ml ds)) := rfl
theorem putY_md {ds : List (Key × D)} {k l} : putY (.md ds) k l = ∀ x : V, k (.own x (.md ds)) := rfl
theorem putY_mt {ds : List (List Key × D)} {k l} : putY (.mt ds) k l = ∀ x : V, k (.own x (.mt ds)) := rfl
theorem putY_mo {C : Addr} {fs : MF} {k l} : putY (.mo C fs) k l = ∀ x : V, k (.own x (.mo C fs)) := rfl
theorem putY_ex {y : M} {k l} (h : putY y k l) (o : Ow K F H v y B) : ∃ z, k z ∧ FvO K F H v z B := by
  cases o with
  | fz z => exact ⟨_, h, .fz z⟩
  | ml a b c => exact ⟨_, h _, .own (.ml a b c)⟩
  | md a b c => exact ⟨_, h _, .own (.md a b c)⟩
  | mt a b c => exact ⟨_, h _, .own (.mt a b c)⟩
  | mo a b c => exact ⟨_, h _, .own (.mo a b c)⟩
def mSetA (ok : Addr → Prop) (f : Str) (i : Nat) (me : TD) : TSd := fun D0 s => me s fun w s1 => tv w s1 fun y s2 => wD (slotM s2 i) (fun m => asO m (fun C fs => ok C ∧ fs.len < 1000 ∧ putY y (fun z => D0.nx (setM s2 i (.mo C (fs.put f z)))) .mk) .mk) .mk
theorem s_setA {ok : Addr → Prop} {f : Str} {i : Nat} {me : TD} {D0 : DEnds} : mSetA ok f i me D0 s = me s fun w s1 => tv w s1 fun y s2 => wD (slotM s2 i) (fun m => asO m (fun C fs => ok C ∧ fs.len < 1000 ∧ putY y (fun z => D0.nx (setM s2 i (.mo C (fs.put f z)))) .mk) .mk) .mk := rfl
theorem OwF.len : ∀ {vs : List (Str × V)} {fs : MF} {B : List Addr}, OwF K F H vs fs B → vs.length = fs.len
  | _, _, _, .nil => rfl
  | _, _, _, .cons _ r => congrArg (· + 1) r.len
theorem OwS.setF {i : Nat} {sl : Slot} {C : Addr} {fs : MF} {f : Str} {z : FV} (sb : Sub F H) (ow : OwS K F H σ s A) (nd : (B ++ A).Nodup) (es : s[i]? = some sl) (em : sl.m? = some (.mo C fs)) (o : FvO K F H v z B) :
    ∃ a dx vs A', σ[i]? = some (some (.ref a)) ∧ H a = some (.ins C dx vs) ∧ vs.length = fs.len ∧ Frm F H (B ++ A) F (L2.upd H a (.ins C dx (putF f v vs))) A' ∧ Sub F (L2.upd H a (.ins C dx (putF f v vs))) ∧
      OwS K F (L2.upd H a (.ins C dx (putF f v vs))) σ (s.set i (sl.put (.mo C (fs.put f z)))) A' ∧ A'.Nodup := by
  obtain ⟨x, B1, C1, E1, ev, o1, hA, kk⟩ := ow.split es em
  subst hA
  cases o1 with
  | mo na ha r =>
    rename_i a dx vs B2
    have ndA := nd_r nd
    have nd1 : (a :: B2).Nodup := nd_r (nd_l ndA)
    have ha2 : a ∉ B2 := (List.nodup_cons.mp nd1).1
    have haB : a ∉ B := fun q => nd_x nd a q (by rw [mem3]; exact .inr (.inl List.mem_cons_self))
    have g : Frm F H [a] F (L2.upd H a (.ins C dx (putF f v vs))) [a] := Frm.upd ha trivial
    have r2 := OwF.keep g r fun b hb q => ha2 ((List.mem_singleton.mp q) ▸ hb)
    have o2 := FvO.keep g o fun b hb q => haB ((List.mem_singleton.mp q) ▸ hb)
    obtain ⟨A3, r3, h3, n3⟩ := r2.store (f := f) o2
    have nBB : (B ++ B2).Nodup := nd_mk (nd_l nd) (List.nodup_cons.mp nd1).2 fun b hb q => nd_x nd b hb (by rw [mem3]; exact .inr (.inl (List.mem_cons_of_mem _ q)))
    have n3 := n3 nBB
    have ha3 : a ∉ A3 := fun q => (h3 a q).elim haB ha2
    have k3 := kk F _ [a] [a] _ (a :: A3) g (fun b hb q => by
      have e := List.mem_singleton.mp q
      subst e
      rcases List.mem_append.mp hb with p | p
      · exact nd_x (nd_l ndA) b p List.mem_cons_self
      · exact nd_x ndA b (List.mem_append_right _ List.mem_cons_self) p) (.mo na upd_same r3)
    have mem : ∀ b ∈ C1 ++ (a :: A3) ++ E1, b ∈ B ++ (C1 ++ (a :: B2) ++ E1) := fun b hb => by
      rw [List.mem_append, mem3]
      rcases mem3.mp hb with p | p | p
      · exact .inr (.inl p)
      · rcases List.mem_cons.mp p with p | p
        · subst p; exact .inr (.inr (.inl List.mem_cons_self))
        · rcases h3 b p with p | p
          · exact .inl p
          · exact .inr (.inr (.inl (List.mem_cons_of_mem _ p)))
      · exact .inr (.inr (.inr p))
    refine ⟨a, dx, vs, C1 ++ (a :: A3) ++ E1, ev, ha, r.len, ?_, sb.upd na (.inr ⟨_, ha, trivial⟩), k3, ?_⟩
    · exact g.more (fun b q => List.mem_append_right _ (by rw [mem3]; rw [List.mem_singleton.mp q]; exact .inr (.inl List.mem_cons_self))) fun b q => .inl (mem b q)
    · have sep : ∀ b ∈ a :: A3, b ∈ B ∨ b ∈ a :: B2 := fun b p => by
        rcases List.mem_cons.mp p with p | p
        · subst p; exact .inr List.mem_cons_self
        · exact (h3 b p).imp id (List.mem_cons_of_mem _)
      refine nd_mk (nd_mk (nd_l (nd_l ndA)) (List.nodup_cons.mpr ⟨ha3, n3⟩) fun b hb q => ?_) (nd_r ndA) fun b hb q => ?_
      · rcases sep b q with p | p
        · exact nd_x nd b p (by rw [mem3]; exact .inl hb)
        · exact nd_x (nd_l ndA) b hb p
      · rcases List.mem_append.mp hb with p | p
        · exact nd_x ndA b (List.mem_append_left _ p) q
        · rcases sep b p with p | p
          · exact nd_x nd b p (by rw [mem3]; exact .inr (.inr q))
          · exact nd_x ndA b (List.mem_append_right _ p) q
theorem LiftS.setA {ok : Addr → Prop} {f : Str} {i : Nat} {t : TE} {me : TD} (hok : ∀ C, ok C → Cls Z.K C ∧ NoAttr Z.K C f) (l : Lift Z t me) : LiftS Z (sFld Z.K (tVar i) t f) (mSetA ok f i me) := by
  intro σ H F A s D0 Dd R h e
  refine l σ H F A s _ _ R h fun w s1 v F1 H1 Av A1 h1 o1 => ?_
  obtain ⟨y, s2, F2, B2, A2, h2, f2, sb2, w2, ow2, nd2, hB, hA⟩ := tv_ok o1.wow o1.sub o1.own o1.nd h1
  obtain ⟨m, em, h3⟩ := wD_ex h2
  obtain ⟨C, fs, rfl, hC, hl, h4⟩ := asO_ex h3
  obtain ⟨z, q, oz⟩ := putY_ex h4 w2
  obtain ⟨sl, e1, e2⟩ := slotM_at em
  obtain ⟨a, dx, vs, A3, ev, ha, hlen, fr, sb3, ow3, nd3⟩ := ow2.setF (f := f) sb2 nd2 e1 e2 oz
  obtain ⟨c1, c2⟩ := hok C hC
  refine ⟨.ref a, ev, a, C, dx, vs, rfl, ha, c1, c2, by omega, ?_⟩
  have ow4 : OwS Z.K F2 (L2.upd H1 a (.ins C dx (putF f v vs))) σ (setM s2 i (.mo C (fs.put f z))) A3 := by
    unfold setM
    rw [e1]
    exact ow3
  exact e.nx _ _ _ _ A3 ((o1.fr.trans0 f2).trans0 fr) sb3 ow4 nd3 q
theorem ds_setA {i : Nat} {x f : Str} {e : Expr} {t : TE} {m : TD} {p ap : Pos} (ok : Addr → Prop) (hK : X.K = Z.K) (hok : ∀ C, ok C → Cls X.K C ∧ NoAttr X.K C f) (hN : X.N[i]? = some x) (h : DE Z X e t m)
    (hv : Vis X.env.scope x := by first | exact Or.inl rfl | exact Or.inr (Or.inl rfl) | exact Or.inr (Or.inr rfl)) (hd : (x == ("__debug__" : Str)) = false := by decide) (hcd : (x == ("__classdict__" : Str)) = false := by decide)
    (hs : swapsWith e (some (.Attribute (.Name x p) f ap)) pos.line X.env = pure false := by rfl) : DS Z X (.Assign [.Attribute (.Name x p) f ap] e pos) (sFld Z.K (tVar i) t f) (mSetA ok f i m) :=
  ⟨by rw [← hK]; exact ps_fld (pv i hN hv hd hcd) h.pe hs, .setA (by rw [← hK]; exact hok) h.lf⟩
def MtAt (P : Program) (w : World) (K : PySem.W.Frag) (mg : Str → Option Value) (base : Heap) (T : List (Addr × Str)) (k : Nat) (C : Addr) (m : Str) (ps : List Str) (io : Bool) (c : CT) : Prop :=
  ∃ (f : Addr) (fd : FuncData), FnOk P w K mg base (L2.CX P w) k f fd ps (spD K T io c) ∧ Cls K C ∧ Meth K C m f ∧ Binds K fd ps []
def InAt (P : Program) (w : World) (K : PySem.W.Frag) (mg : Str → Option Value) (base : Heap) (T : List (Addr × Str)) (k : Nat) (x : Str) (C : Addr) (ps : List Str) (c : CT) : Prop :=
  ∃ (f : Addr) (fd : FuncData), FnOk P w K mg base (L2.CX P w) k f fd ps (spD K T true c) ∧ mg x = some (.ref C) ∧ Mk K C f ∧ Binds K fd ps []
def TopMt (K : PySem.W.Frag) (x qual : Str) (st : Stmt) (ps : List Str) (f : Addr) : Prop := ∃ fd : FuncData, Fun K x qual st f fd ∧ Binds K fd ps []
section
variable {P : Program} {w : World} {mg : Str → Option Value} {base : Heap}
theorem mtAt {x qual : Str} {st : Stmt} {N ps : List Str} {k : Nat} {io : Bool} {c : CT} {T : List (Addr × Str)} {f : Addr} (Tf : TopMt K x qual st ps f) (S : FnScope N ps (defScope st)) (hlen : ∀ ms R X, c ms R X → ms.length = ps.length) (hio : io = true → 0 < ps.length)
    (hbody : ∀ (f : Addr) (cdv : Value) (A : Around) (outer : List Env) (s : Shared) (H : Hp) (E : XK) (x0 : V) (Xd : Value → Pay → List M → Prop), Room k (A.deeper (PyProof.Rows.envOfC qual (defScope st) s.heap.objs.size f cdv)) →
      ∃ t m, DSs ⟨K, fun cls d _ H' => E cls d H', fun cls pl s' => fin io x0 s' (Xd cls pl), T⟩ (cxOf (L2.CX P w) P w K mg base N qual (defScope st) f cdv A outer s H E) (defBody st) t m ∧
        ∀ ms Rd, c ms Rd Xd → m ⟨fun s' => fin io x0 s' (Rd (.fz .non)), fun r s' => fin io x0 s' (Rd r), fun _ => False, fun _ => False⟩ (startD io x0 ms N.length)) :
    ∃ fd, FnOk P w K mg base (L2.CX P w) (k + 1) f fd ps (spD K T io c) ∧ Binds K fd ps [] := by
  obtain ⟨fd, Fn, hb⟩ := Tf
  exact ⟨fd, fn_ok Fn S hlen hio (fun cdv _ => hbody f cdv), hb⟩
end
def isO (C : Addr) (m : Str) (s : DSt) (w : W) : Prop := wD (res s w) (fun d => match d with
  | .obj C' fs => C' = C ∧ fs.lookup m = none
  | _ => False) .mk
def isOD (C : Addr) (m : Str) (d : D) : Prop := match d with
  | .obj C' fs => C' = C ∧ fs.lookup m = none
  | _ => False
theorem isO_ex {C : Addr} {m : Str} (h : isO C m s w) : ∃ fs, res s w = some (.obj C fs) ∧ fs.lookup m = none := by
  obtain ⟨d, e, q⟩ := wD_ex h
  cases d with
  | obj C' fs =>
    obtain ⟨rfl, q⟩ := q
    exact ⟨fs, e, q⟩
  | _ => exact q.elim
theorem s_isO {C : Addr} {m : Str} : isO C m s w = wD (res s w) (fun d => isOD C m d) .mk := rfl
theorem isOD_obj {C C' : Addr} {m : Str} {fs : List (Str × D)} : isOD C m (.obj C' fs) = (C' = C ∧ fs.lookup m = none) := rfl
theorem Fzf.lookN : ∀ {vs : List (Str × V)} {ds : List (Str × D)} {f : Str}, Fzf K F vs ds → ds.lookup f = none → vs.lookup f = none
  | _, _, f, .nil, h => rfl
  | _, _, f, .cons (k := g) z r, h => by
    rw [List.lookup_cons] at h ⊢
    cases e : f == g with
    | true => rw [e] at h; cases h
    | false => rw [e] at h; exact r.lookN h
theorem WOw.ins {C : Addr} {m : Str} (x : WOw K F H σ v w B) (sb : Sub F H) (o : OwS K F H σ s A) (h : isO C m s w) : ∃ a dx fs, v = .ref a ∧ H a = some (.ins C dx fs) ∧ fs.lookup m = none := by
  obtain ⟨fs, e, hl⟩ := isO_ex h
  have z := x.view sb o e
  cases z with
  | obj hx zs => exact ⟨_, _, _, rfl, hx, zs.lookN hl⟩
def mRcv (C : Addr) (m : Str) (mr : TD) : TD := fun s Q => mr s fun w s1 => isO C m s1 w ∧ Q w s1
theorem s_rcv {C : Addr} {m : Str} {mr : TD} {Q} : mRcv C m mr s Q = mr s fun w s1 => isO C m s1 w ∧ Q w s1 := rfl
def tRcv (C : Addr) (m : Str) (t : TE) : TE := fun σ H Q => t σ H fun x H1 => (∃ a dx fs, x = .ref a ∧ H1 a = some (.ins C dx fs) ∧ fs.lookup m = none) ∧ Q x H1
theorem Lift.rcv {C : Addr} {m : Str} {t : TE} {mr : TD} (l : Lift Z t mr) : Lift Z (tRcv C m t) (mRcv C m mr) := by
  intro σ H F A s Q Qd R h k
  refine l σ H F A s _ _ R h fun w s1 v F1 H1 Av A1 h1 o1 => ?_
  exact ⟨o1.wow.ins o1.sub o1.own h1.1, k _ _ _ _ _ _ _ h1.2 o1⟩
def tMethA (C : Addr) (m : Str) (sp : Sp) (E : St → XK) (ta : TE) (t : TA) : TE := tCallS sp E (tCons (tRcv C m ta) t)
theorem pe_methA {C f : Addr} {m : Str} {k : Nat} {fd : FuncData} {ps : List Str} {sp : Sp} {E : St → XK} {CX : CXT} {o e : Expr} {es : List Expr} {ta : TE} {t : TA} {apos : Pos} {pl : Sem Bool} (he : PE X o ta) (c : Cls X.K C) (hm : Meth X.K C m f) (Fn : FnOk X.prog X.w X.K X.mg X.base CX k f fd ps sp) (hr : Room k X.A) (hb : Binds X.K fd ps []) (hx : ∀ σ, PassesAt CX X σ (E σ)) (ha : PA X (e :: es) t)
    (hst : starEach (e :: es) X.env = (false, eval e X.env) :: starEach es X.env := by rfl) (hpl : (backTo pos (starEach es X.env)).any (·.1) = false := by rfl)
    (ht : eval (.Call (.Attribute o m apos) (e :: es) [] pos) X.env = (do
      let ov ← eval o X.env
      standAt apos.atName
      let (f, first) ← holding [ov] (getMethod ov m pl)
      callWith pos f first (backTo pos (starEach (e :: es) X.env)) (backToKw pos (keywordEach [] X.env))) := by rfl) :
    PE X (.Call (.Attribute o m apos) (e :: es) [] pos) (tMethA C m sp E ta t) := by
  refine ⟨fun pins s σ H Q I h => ?_⟩
  refine PySem.W.methodCall_KW (pl := pl) (thn (he.run pins s σ H _ I h) fun u s1 ⟨x, H1, I1, rx, ⟨a, dx, fs, ex, ea, l⟩, q⟩ => ?_) ht
  subst ex
  obtain rfl : u = Value.ref a := rx
  refine getmeth_ok I1 ea c hm l ?_
  refine PySem.W.callWith_K (first := [.ref a]) (h₀ := X.base) I.ok.mod.kin hm.kp (thn (ha.run pos pins s1 σ H1 _ I1 q) fun us s2 ⟨vs, H2, I2, r, q2⟩ => ⟨I2.kIn, ?_⟩) hst hpl
  exact run_fnS (us := .ref a :: us) (vs := .ref a :: vs) Fn hr hb (hx σ) I2 (.cons rfl r) q2
theorem de_methIO {c : CT} {k : Nat} {ps : List Str} {C : Addr} {m : Str} {o e : Expr} {es : List Expr} {to : TE} {mo : TD} {t : TA} {ma : TDs} {apos : Pos} {pl : Sem Bool} (Fn : MtAt X.prog X.w X.K X.mg X.base Z.T k C m ps true c) (hr : Room k X.A) (hK : X.K = Z.K) (tk : Takes X Z.W) (ho : DE Z X o to mo) (ha : DA Z X (e :: es) t ma)
    (hst : starEach (e :: es) X.env = (false, eval e X.env) :: starEach es X.env := by rfl) (hpl : (backTo pos (starEach es X.env)).any (·.1) = false := by rfl)
    (ht : eval (.Call (.Attribute o m apos) (e :: es) [] pos) X.env = (do
      let ov ← eval o X.env
      standAt apos.atName
      let (f, first) ← holding [ov] (getMethod ov m pl)
      callWith pos f first (backTo pos (starEach (e :: es) X.env)) (backToKw pos (keywordEach [] X.env))) := by rfl) :
    DE Z X (.Call (.Attribute o m apos) (e :: es) [] pos) (tMethA C m (spD Z.K Z.T true c) (WE Z.W) to t) (mCallIO Z.D c (mCons (mRcv C m mo) ma)) := by
  obtain ⟨f, fd, F, hc, hm, hb⟩ := Fn
  exact ⟨pe_methA ho.pe hc hm (by rw [← hK]; exact F) hr hb (fun σ => passAt tk σ) ha.pa hst hpl ht, .callIO (.cons (.rcv ho.lf) ha.lf)⟩
def tMakeA (C : Addr) (sp : Sp) (E : St → XK) (t : TA) : TE := fun σ H Q => t σ H fun vs H1 => ∀ x dx, H1 x = none → H1 dx = none → dx ≠ x →
  sp (.ref x :: vs) (L2.upd (L2.upd H1 dx (.own x)) x (.ins C dx [])) (fun v H2 => v = .non ∧ Q (.ref x) H2) (E σ)
theorem pe_makeA {C f : Addr} {x : Str} {k : Nat} {fd : FuncData} {ps : List Str} {sp : Sp} {E : St → XK} {CX : CXT} {e : Expr} {es : List Expr} {t : TA} {p : Pos} (M : Mk X.K C f) (Fn : FnOk X.prog X.w X.K X.mg X.base CX k f fd ps sp) (hr : Room (k + 1) X.A) (hg : Gl X x) (hm : X.mg x = some (.ref C)) (hb : Binds X.K fd ps []) (hx : ∀ σ, PassesAt CX X σ (E σ))
    (ha : PA X (e :: es) t) (hdb : (x == ("__debug__" : Str)) = false := by decide) (he : starEach (e :: es) X.env = (false, eval e X.env) :: starEach es X.env := by rfl) (hpl : (backTo pos (starEach es X.env)).any (·.1) = false := by rfl) :
    PE X (.Call (.Name x p) (e :: es) [] pos) (tMakeA C sp E t) := by
  refine ⟨fun pins s σ H Q I h => ?_⟩
  refine wpAny_Call_Name_kw (ld_glob I hg hm ?_ hdb)
  refine PySem.W.callWith_K (h₀ := X.base) I.ok.mod.kin M.kp (thn (ha.run pos pins s σ H _ I h) fun us s1 ⟨vs, H1, I1, r, q⟩ => ⟨I1.kIn, ?_⟩) he hpl
  have hq := q (s1.heap.objs.size + 1) s1.heap.objs.size (I1.hok.fresh (Nat.le_succ _)) (I1.hok.fresh (Nat.le_refl _)) (Nat.ne_of_lt (Nat.lt_succ_self _))
  have I2 := Inv.made (C := C) I1
  have r2 : Vals (V.ref (s1.heap.objs.size + 1) :: vs) (Value.ref (s1.heap.objs.size + 1) :: us) := .cons rfl r
  have hl : (Value.ref (s1.heap.objs.size + 1) :: us ++ []).length = ps.length := by
    have e := r2.length
    rw [Fn.len _ _ _ _ hq] at e
    rw [List.append_nil]
    exact e.symm
  have hbb := hb _ (Value.ref (s1.heap.objs.size + 1) :: us) I2.kIn hl
  rw [List.append_nil] at hbb
  refine wpAny_call (make_map (f := f) I1.kIn M.makes M.init (beq_iff_eq.mp M.fn) (codeAny_mono (Fn.run _ X.stack _ _ ⟨Value.ref (s1.heap.objs.size + 1) :: us, []⟩ (Value.ref (s1.heap.objs.size + 1) :: us) _ _ (E σ) (hr.make C us [])
    (I2.env0.make C us []) hbb r2 hq) fun r s' hq' => ?_))
  cases r with
  | error e => exact hx σ pins _ _ e s' I2 hq'
  | ok fl =>
    cases fl with
    | ret u =>
      obtain ⟨v, H', I3, rv, ev, q3⟩ := I2.after hq'
      subst ev
      exact ⟨rv, ⟨V.ref (s1.heap.objs.size + 1), H', I3, rfl, q3⟩⟩
    | next => exact False.elim hq'
    | brk => exact False.elim hq'
    | cont => exact False.elim hq'
def mMake (D : Value → Pay → DSt → Prop) (C : Addr) (c : CT) (m : TDs) : TD := fun s Q => m s fun ws s1 => tvs ws s1 fun ms s2 => c (.mo C .nil :: ms) (fun r ms' => r = .fz .non ∧ one ms' (fun m' => Q (.val m') s2) .mk) fun cls pl _ => D cls pl s2
def fzW (w : W) (s : DSt) (Q : W → DSt → Prop) : Prop := match w with
  | .val m => Q (.val (.fz m.frz)) s
  | _ => False
theorem s_fzV {m : M} {Q} : fzW (.val m) s Q = Q (.val (.fz m.frz)) s := rfl
def mFz (m : TD) : TD := fun s Q => m s fun w s1 => fzW w s1 Q
theorem s_fz {m : TD} {Q} : mFz m s Q = m s fun w s1 => fzW w s1 Q := rfl
theorem s_make {E : Value → Pay → DSt → Prop} {C : Addr} {c : CT} {ms : TDs} {Q} : mMake E C c ms s Q = ms s fun ws s1 => tvs ws s1 fun ms s2 => c (.mo C .nil :: ms) (fun r ms' => r = .fz .non ∧ one ms' (fun m' => Q (.val m') s2) .mk) fun cls pl _ => E cls pl s2 := rfl
theorem one_ex {α : Type} {x : List α} {k : α → Prop} {l : Lock k} (h : one x k l) : ∃ a, x = [a] ∧ k a := by
  match x, h with
  | [a], h => exact ⟨a, rfl, h⟩
theorem Lift.make {C : Addr} {c : CT} {t : TA} {m : TDs} (l : Lifts Z t m) : Lift Z (tMakeA C (spD Z.K Z.T true c) (WE Z.W) t) (mMake Z.D C c m) := by
  intro σ H F A s Q Qd R h k
  refine l σ H F A s _ _ R h fun ws s1 vs F1 H1 Av A1 h1 o1 => ?_
  obtain ⟨ms, s2, F2, B2, A2, h2, f2, sb2, ol, ow2, n2, hB, hA⟩ := tvs_ok o1.wow o1.sub o1.own o1.nd h1
  intro x dx nx ndx nex
  have f12 : Frm F H A F2 H1 (B2 ++ A2) := o1.fr.trans0 f2
  have Fx := sb2.fresh nx
  have Fdx := sb2.fresh ndx
  have sb3 : Sub F2 (L2.upd (L2.upd H1 dx (.own x)) x (.ins C dx [])) := (sb2.upd Fdx (.inl ndx)).upd Fx (.inl (by rw [upd_ne (Ne.symm nex)]; exact nx))
  have g0 : Frm F2 H1 [] F2 (L2.upd (L2.upd H1 dx (.own x)) x (.ins C dx [])) [x] := by
    refine .ext (fun _ _ h => h) (fun b o hb => ?_) (fun b hb => .inr (by rw [List.mem_singleton.mp hb]; exact nx)) (fun _ _ h => .inl h)
    rw [upd_ne (ne_of_none hb nx), upd_ne (ne_of_none hb ndx)]
    exact hb
  have gB : Frm F2 H1 B2 F2 (L2.upd (L2.upd H1 dx (.own x)) x (.ins C dx [])) (x :: B2) := g0.more (fun _ h => nomatch h) fun b hb => by
    rcases List.mem_cons.mp hb with q | q
    · subst q; exact .inr (.inl nx)
    · exact .inl q
  have xB : x ∉ B2 := fun q => by
    obtain ⟨o, e, _⟩ := (ol.out x q).2
    rw [nx] at e; cases e
  have ol2 := ol.keep g0 fun b _ q => nomatch q
  have ow3 := ow2.keep g0 fun b _ q => nomatch q
  have ox : Ow Z.K F2 (L2.upd (L2.upd H1 dx (.own x)) x (.ins C dx [])) (.ref x) (.mo C .nil) [x] := .mo Fx upd_same .nil
  have fA : Frm F H A F2 H1 (A2 ++ B2) := f12.weak fun a ha => (List.mem_append.mp ha).elim (List.mem_append_right _) (List.mem_append_left _)
  have fA3 : Frm F H A F2 (L2.upd (L2.upd H1 dx (.own x)) x (.ins C dx [])) (A2 ++ (x :: B2)) := Frm.trans (B := A2) fA gB
  have hx : ∀ a ∈ A2, a ∉ x :: B2 := fun a ha hb => by
    rcases List.mem_cons.mp hb with q | q
    · subst q
      obtain ⟨o, e, _⟩ := (ow2.out a ha).2
      rw [nx] at e; cases e
    · exact nd_x n2 a q ha
  refine ⟨F2, x :: B2, .mo C .nil :: ms, _, _, R.ex.tb.frm fA3, sb3, .cons (A1 := [x]) ox ol2, List.nodup_cons.mpr ⟨xB, nd_l n2⟩, h2, fun r ms' v F' H' Aw A' q g sb ow ol' nd => ?_, fun cls pl ms' d F' H' A' q g sb xp ol' nd => ?_⟩
  · obtain ⟨rfl, q⟩ := q
    obtain ⟨m', rfl, q⟩ := one_ex q
    cases ow with
    | fz z =>
      cases z
      refine ⟨rfl, ?_⟩
      cases ol' with
      | cons o' e' =>
        cases e'
        rename_i A3
        have f3 := Frm.trans (B := A2) fA3 g
        have nd' : A3.Nodup := by simpa using nd
        have gn : ∀ a ∈ A3, a ∉ A2 := fun a ha hb => by
          rcases g.new a (by simpa using ha) with p | p
          · exact hx a hb p
          · obtain ⟨o, e, d⟩ := (ow3.out a hb).2
            exact fr_no e d.nt p
        exact k _ _ _ _ _ A3 A2 q ⟨f3.weak fun a ha => by simp at ha ⊢; exact ha.symm, sb, .val o', ow3.keep g hx, nd_mk nd' (nd_r n2) gn⟩
  · cases ol' with
    | cons o' e' =>
      have f3 := Frm.trans (B := A2) fA3 g
      exact R.ex.im cls d pl σ s2 F' H' A2 (f3.weak fun a ha => List.mem_append_left _ ha) sb (ow3.keep g hx) (nd_r n2) xp q
theorem Lift.fz {t : TE} {m : TD} (l : Lift Z t m) : Lift Z t (mFz m) := by
  intro σ H F A s Q Qd R hn k
  refine l σ H F A s _ _ R hn fun w s1 v F1 H1 Av A1 h1 o1 => ?_
  cases w with
  | slot _ => exact h1.elim
  | fld _ _ _ => exact h1.elim
  | val m' =>
    cases o1.wow with
    | val ow =>
      obtain ⟨F2, f2, sb2, z⟩ := ow.freeze o1.sub (nd_l o1.nd)
      have hx := nd_x o1.nd
      have fA : Frm F H A F1 H1 (A1 ++ Av) := o1.fr.weak fun a ha => (List.mem_append.mp ha).elim (List.mem_append_right _) (List.mem_append_left _)
      exact k _ _ _ _ _ [] A1 h1 ⟨(Frm.trans (B := A1) fA f2).weak fun a ha => by simpa using ha, sb2, .val (.fz z), o1.own.keep f2 fun a ha hb => hx a hb ha, by simpa using nd_r o1.nd⟩
theorem de_make {c : CT} {k : Nat} {ps : List Str} {C : Addr} {x : Str} {p : Pos} {e : Expr} {es : List Expr} {t : TA} {m : TDs} (Fn : InAt X.prog X.w X.K X.mg X.base Z.T k x C ps c) (hr : Room (k + 1) X.A) (hg : Gl X x) (hK : X.K = Z.K) (tk : Takes X Z.W) (ha : DA Z X (e :: es) t m)
    (hdb : (x == ("__debug__" : Str)) = false := by decide) (he : starEach (e :: es) X.env = (false, eval e X.env) :: starEach es X.env := by rfl) (hpl : (backTo pos (starEach es X.env)).any (·.1) = false := by rfl) :
    DE Z X (.Call (.Name x p) (e :: es) [] pos) (tMakeA C (spD Z.K Z.T true c) (WE Z.W) t) (mMake Z.D C c m) := by
  obtain ⟨f, fd, F, hm, M, hb⟩ := Fn
  exact ⟨pe_makeA M (by rw [← hK]; exact F) hr hg hm hb (fun σ => passAt tk σ) ha.pa hdb he hpl, .make ha.lf⟩
theorem de_fz {e : Expr} {t : TE} {m : TD} (h : DE Z X e t m) : DE Z X e t (mFz m) := ⟨h.pe, .fz h.lf⟩
def mProp (C : Addr) (c : CT) (m : TD) : TD := fun s Q => m s fun w s1 => isI C s1 w ∧ tv w s1 fun m s2 => c [m] (fun r _ => Q (.val r) s2) fun _ _ _ => False
where isI (C : Addr) (s : DSt) (w : W) : Prop := wD (res s w) (fun d => match d with
  | .obj C' _ => C' = C
  | _ => False) .mk
def isID (C : Addr) (d : D) : Prop := match d with
  | .obj C' _ => C' = C
  | _ => False
theorem isID_obj {C C' : Addr} {fs : List (Str × D)} : isID C (.obj C' fs) = (C' = C) := rfl
theorem s_isI {C : Addr} : mProp.isI C s w = wD (res s w) (fun d => isID C d) .mk := rfl
theorem s_prop {C : Addr} {c : CT} {m : TD} {Q} : mProp C c m s Q = m s fun w s1 => mProp.isI C s1 w ∧ tv w s1 fun m s2 => c [m] (fun r _ => Q (.val r) s2) fun _ _ _ => False := rfl
end
end DL
namespace DL
open PySem PySem.Spec L2
section
variable {Z : ZX} {X : Cx} {K : PySem.W.Frag} {F H F1 H1 F2 H2 F' H' : Hp} {A A1 A2 A' Av B : List Addr} {σ : L2.St} {s s1 s2 : DSt} {v x : V} {w : W} {pos : Pos} {i : Nat} {f : Str}
theorem ownAt_own {m : M} : (FV.own x m).ownAt x = some m := by simp [FV.ownAt]
theorem s_fldM : fldM s i f x = ((s[i]?).bind Slot.m?).bind fun m => mAt m f x := rfl
theorem mAt_mo {C : Addr} {fs : MF} : mAt (.mo C fs) f x = (fs.get f).bind fun y => y.ownAt x := rfl
def putMo (m : M) (f : Str) (y : FV) : M := match m with
  | .mo C fs => .mo C (fs.put f y)
  | m => m
theorem putMo_mo {C : Addr} {fs : MF} {y : FV} : putMo (.mo C fs) f y = .mo C (fs.put f y) := rfl
theorem Slot.put_same {sl : Slot} {m : M} (h : sl.m? = some m) : sl.put m = sl := by
  cases sl with
  | un => cases h
  | v m' => cases h; rfl
  | p x m' => cases h; rfl
theorem s_fldPut {y : FV} : fldPut s i f y = s.set i (Slot.put (s[i]?.getD .un) (putMo (((s[i]?).bind Slot.m?).getD (.fz .non)) f y)) := by
  unfold fldPut
  cases e : s[i]? with
  | none =>
    simp only [Option.getD_none]
    rw [List.set_eq_of_length_le]
    exact List.getElem?_eq_none_iff.mp e
  | some sl =>
    simp only [Option.getD_some]
    cases e2 : sl.m? with
    | none =>
      cases sl with
      | un =>
        simp only [Slot.put]
        obtain ⟨h1, h2⟩ := List.getElem?_eq_some_iff.mp e
        rw [← h2, List.set_getElem_self]
      | _ => cases e2
    | some m =>
      have same : s.set i (sl.put m) = s := by
        rw [Slot.put_same e2]
        obtain ⟨h1, h2⟩ := List.getElem?_eq_some_iff.mp e
        rw [← h2, List.set_getElem_self]
      simp only [Option.bind_some, e2, Option.getD_some]
      cases m with
      | mo C fs => rfl
      | _ => exact same.symm
theorem s_resF : res s (.fld i f x) = (fldM s i f x).map M.frz := rfl
theorem s_tvF {Q} : tv (.fld i f x) s Q = wD (fldM s i f x) (fun m => Q (.fz m.frz) (fldPut s i f (.fz m.frz))) .mk := by
  have e : tv (.fld i f x) s Q = match fldM s i f x with | some m => Q (.fz m.frz) (fldPut s i f (.fz m.frz)) | none => False := rfl
  rw [e]
  cases fldM s i f x <;> rfl
theorem s_rvF {Q} : rv (.fld i f x) s Q = tv (.fld i f x) s Q := rfl
def mAppW (mr : TD) (ma : TDs) : TD := fun s Q => mr s fun w s1 => fldL w s1 (fun i f x => ma s1 fun ws s2 => tvs ws s2 fun ms s3 => wD (fldM s3 i f x) (fun m => asL m (fun ds => one ms (fun y => ds.length < sizeLine ∧ Q (.val (.fz .non)) (fldPut s3 i f (.own x (.ml (ds ++ [y.frz]))))) .mk) .mk) .mk) .mk
where fldL (w : W) (s : DSt) (k : Nat → Str → V → Prop) (l : Lock k) : Prop := match w with
  | .fld i f x => hasL (fldM s i f x) ∧ k i f x
  | _ => False
theorem s_appW {mr : TD} {ma : TDs} {Q} : mAppW mr ma s Q = mr s fun w s1 => mAppW.fldL w s1 (fun i f x => ma s1 fun ws s2 => tvs ws s2 fun ms s3 => wD (fldM s3 i f x) (fun m => asL m (fun ds => one ms (fun y => ds.length < sizeLine ∧ Q (.val (.fz .non)) (fldPut s3 i f (.own x (.ml (ds ++ [y.frz]))))) .mk) .mk) .mk) .mk := rfl
theorem s_fldL {k l} : mAppW.fldL (.fld i f x) s k l = (hasL (fldM s i f x) ∧ k i f x) := rfl
def fldIt (w : W) (s : DSt) (k : Nat → Str → V → List D → Prop) (l : Lock k) : Prop := match w with
  | .fld i f x => wD (fldM s i f x) (fun m => asL m (fun ds => k i f x ds) .mk) .mk
  | _ => False
theorem s_fldIt {k l} : fldIt (.fld i f x) s k l = wD (fldM s i f x) (fun m => asL m (fun ds => k i f x ds) .mk) .mk := rfl
def FoA (s : DSt) (i : Nat) (f : Str) (x : V) (ds es : List D) (g : TGd) (mb : TSd) (D0 : DEnds) : Prop := ∃ P : Nat → DSt → Prop, P 0 s ∧ (∀ (j : Nat) d s, es[j]? = some d → P j s → fldM s i f x = some (.ml ds) ∧ g (.fz d) s fun s2 => mb { D0 with nx := P (j + 1), ct := P (j + 1), bk := D0.nx } s2) ∧ ∀ s, P es.length s → fldM s i f x = some (.ml ds) ∧ D0.nx s
def mForA (mw : TD) (h : List D → List D) (g : TGd) (mb : TSd) : TSd := fun D0 s => mw s fun w s1 => fldIt w s1 (fun i f x ds => FoA s1 i f x ds (h ds) g mb D0) .mk
theorem s_forA {mw : TD} {h : List D → List D} {g : TGd} {mb : TSd} {D0 : DEnds} : mForA mw h g mb D0 s = mw s fun w s1 => fldIt w s1 (fun i f x ds => FoA s1 i f x ds (h ds) g mb D0) .mk := rfl
end
end DL
namespace DL
open PySem PySem.Spec PyProof.Rows L2
local instance keyBEq : BEq L2.Key := instBEqOfDecidableEq
local instance keyLaw : LawfulBEq L2.Key := { eq_of_beq := fun {a b} h => of_decide_eq_true h, rfl := fun {a} => decide_eq_true rfl }
theorem snoc_ind {α : Type} {P : List α → Prop} (h0 : P []) (h1 : ∀ l x, P l → P (l ++ [x])) (l : List α) : P l := by
  have : ∀ r : List α, P r.reverse := by
    intro r
    induction r with
    | nil => exact h0
    | cons x r ih => rw [List.reverse_cons]; exact h1 _ _ ih
  simpa using this l.reverse
def met (l : List L2.Key) : List L2.Key := l.foldl (fun acc x => if x ∈ acc then acc else acc ++ [x]) []
theorem met_snoc (l : List L2.Key) (x : L2.Key) : met (l ++ [x]) = if x ∈ met l then met l else met l ++ [x] := by
  unfold met
  rw [List.foldl_append]
  rfl
theorem mem_foldMet : ∀ (l acc : List L2.Key) (y : L2.Key), y ∈ l.foldl (fun acc x => if x ∈ acc then acc else acc ++ [x]) acc ↔ y ∈ acc ∨ y ∈ l
  | [], acc, y => by simp
  | x :: l, acc, y => by
    rw [List.foldl_cons, mem_foldMet l]
    by_cases h : x ∈ acc
    · rw [if_pos h]
      constructor
      · rintro (q | q)
        · exact .inl q
        · exact .inr (List.mem_cons_of_mem _ q)
      · rintro (q | q)
        · exact .inl q
        · rcases List.mem_cons.mp q with q | q
          · subst q; exact .inl h
          · exact .inr q
    · rw [if_neg h]
      simp [or_assoc]
theorem mem_met {l : List L2.Key} {y : L2.Key} : y ∈ met l ↔ y ∈ l := by
  unfold met
  rw [mem_foldMet]
  simp
theorem met_len_le : ∀ l : List L2.Key, (met l).length ≤ l.length := by
  refine snoc_ind (Nat.le_refl _) fun l x ih => ?_
  rw [met_snoc]
  split
  · simp; omega
  · simp; omega
theorem met_nodup {l : List L2.Key} (h : l.Nodup) : met l = l := by
  revert h
  refine snoc_ind (P := fun l => l.Nodup → met l = l) (fun _ => rfl) (fun l x ih h => ?_) l
  obtain ⟨h1, h2, h3⟩ := List.nodup_append.mp h
  rw [met_snoc, ih h1, if_neg]
  intro q
  exact h3 x q x (by simp) rfl
section
variable {prog : Program} {w : World} {A : Around} {R : Result → Shared → Prop} {I : Addr} {fp wr : List Addr} {G : Array GenState → Array GenState → Prop} {n : Nat} {P : Nat → Value → Prop} {St : Nat → Shared → Prop}
theorem setLoopK (W : WalksS prog w A.in1 I fp wr G n P St) (T : Addr) (hT : T ∉ fp) (ks : List L2.Key) (hk : ks.length = n) (hb : n + 1 < scanBound)
    (hv : ∀ i v, P i v → ∃ k, ks[i]? = some k ∧ (mixKind prog w).is k v = true ∧ v.scannable = true) (fin : ∀ z, Moved (T :: wr) G z z → True) :
    ∀ (j i : Nat) (z : Shared), n - i = j → i ≤ n → St i z → z.heap.SetOf (mixKind prog w) T (fun k' => decide (k' ∈ met (ks.take i))) (met (ks.take i)).length →
      (∀ z', Moved (T :: wr) G z z' → z'.heap.SetOf (mixKind prog w) T (fun k' => decide (k' ∈ met (ks.take n))) (met (ks.take n)).length → R (.ok (.ret .none)) z') →
      codeAny (model prog w) A (.builtin "set.update.loop" ⟨[.ref T, .ref I], []⟩) R z := by
  have notW : T ∉ wr := fun q => hT (W.sub _ q)
  have wider : ∀ c ∈ wr, c ∈ T :: wr := fun c q => List.mem_cons_of_mem _ q
  have carry : ∀ {z z' : Shared} {S : L2.Key → Bool} {c : Nat}, Moved wr G z z' → z.heap.SetOf (mixKind prog w) T S c → z'.heap.SetOf (mixKind prog w) T S c := by
    rintro z z' S c mv ⟨ob, els, ep, tb, h1, h2⟩
    exact ⟨ob, els, ep, tb, mv.heap T _ notW h1, h2⟩
  intro j
  induction j with
  | zero =>
    intro i z e1 e2 st0 s0 k0
    obtain rfl : i = n := by omega
    refine codeAny_builtin F.entry_set_update_loop ?_
    rw [Around.under_plainId F.plain_set_update_loop _]
    show wpAny _ (Around.in1 A) (pyNext (.ref I) >>= _) _ _ z
    exact wpAny_bind (W.done z _ _ st0 fun z' mv => wpAny_pure (k0 z' (mv.mono wider) (carry mv s0)))
  | succ j ih =>
    intro i z e1 e2 st0 s0 k0
    have lt : i < n := by omega
    refine codeAny_builtin F.entry_set_update_loop ?_
    rw [Around.under_plainId F.plain_set_update_loop _]
    show wpAny _ (Around.in1 A) (pyNext (.ref I) >>= _) _ _ z
    refine wpAny_bind (W.item i z _ _ lt st0 fun v z' pv st1 mv => ?_)
    obtain ⟨key, ek, kis, ksc⟩ := hv i v pv
    have s1 := carry mv s0
    have hle : (met (ks.take i)).length ≤ n := Nat.le_trans (met_len_le _) (by simp; omega)
    have hstep : ks.take (i + 1) = ks.take i ++ [key] := by rw [List.take_succ, ek]; rfl
    show wpAny _ (Around.in1 A) (holding [v] (setAdd T v) >>= _) _ _ z'
    refine wpAny_bind (wpAny_holding ?_)
    unfold setAdd
    refine wpAny_holding (wpAny_bind ((mixKind prog w).pyHash kis ?_))
    refine wpAny_setAddHashed_of (knd := mixKind prog w) (s := { z' with toks := z'.toks + 1 }) kis ksc s1 (by omega) fun h2 same s2 => ?_
    have s3 : h2.SetOf (mixKind prog w) T (fun k' => decide (k' ∈ met (ks.take (i + 1)))) (met (ks.take (i + 1))).length := by
      refine SetOf_congr s2 (fun k' => ?_) ?_
      · rw [Bool.eq_iff_iff, Bool.or_eq_true, decide_eq_true_iff, decide_eq_true_iff, decide_eq_true_iff, hstep, mem_met, mem_met]
        simp
      · rw [hstep, met_snoc]
        by_cases q : key ∈ met (ks.take i)
        · rw [if_pos (decide_eq_true q), if_pos q]
        · rw [if_neg (by simpa using q), if_neg q]
          simp
    refine wpAny_pure ⟨plainId_quiet F.plain_set_update_loop _, ih (i + 1) _ (by omega) lt (W.frame _ z' _ _ st1 (Nat.le_succ _) fun c hc o e => ?_) s3 fun z2 mv2 s4 => ?_⟩
    · rw [same.2 c (fun q : c = T => hT (by rw [← q]; exact hc))]
      exact e
    · refine k0 z2 (Moved.trans W.gtrans ((mv.mono wider).then_heap (Nat.le_succ _) fun c o hc e => ?_) mv2) s4
      rw [same.2 c (fun q : c = T => hc (by rw [q]; exact List.mem_cons_self))]
      exact e
end
section
variable {prog : Program} {w : World} {A : Around} {E : Value → Shared → Prop} {z : Shared}
theorem setOfList {l : Addr} {items : Array Value} {ks : List L2.Key} {Φ : Value → Shared → Prop} (hA : A.handled = none) (hl : z.heap.IsList l items) (hk : ks.length = items.size) (hb : items.size + 1 < scanBound)
    (hv : ∀ (i : Nat) (v : Value), items[i]? = some v → ∃ k, ks[i]? = some k ∧ (mixKind prog w).is k v = true ∧ v.scannable = true)
    (h : ∀ (h' : Heap) (tk : Nat), h'.SetOf (mixKind prog w) z.heap.objs.size (fun k' => decide (k' ∈ met ks)) (met ks).length → (∀ c o, c < z.heap.objs.size → z.heap.get? c = some o → h'.get? c = some o) → Φ (.ref z.heap.objs.size) { z with heap := h', toks := tk }) :
    wpAny (model prog w) A (call (.type "set") [.ref l]) Φ E z := by
  obtain ⟨cc, ctl, hmroS⟩ := F.called_set.mro
  have madeS := F.called_set.made
  have subS := F.called_set.sub
  refine wpAny_call (codeAny_of_tree ?_)
  show wpAny _ _ (callAny (.type "set") _) _ _ _
  refine wpAny_pure ⟨Code.quiet_builtin _ (by decide +kernel), codeAny_builtin F.entry_type_call ?_⟩
  rw [Around.under_plain (weight_type_call_type "set" [.ref l] []) rfl]
  have ntS := F.called_set.notType
  have ccS := F.called_set.canCreate
  have tcS := F.typeCall_set_1 (.ref l)
  repeat (any_goals (first | assumption | wp_step))
  refine codeAny_mono (code_set_new_1 (.ref l) (E := E) (Q₁ := fun ob z₁ => ∃ lg : Bool, ob = .ref z.heap.objs.size ∧ z₁ = { z with heap := z.heap.push { cls := .type "set", dict := none, data := .set #[] 0 (.fresh 0 0 lg) } }) fun lg => ⟨lg, rfl, rfl⟩) fun r z₁ hr => ?_
  cases r with
  | error e => exact hr
  | ok fl =>
    cases fl with
    | ret ob =>
      obtain ⟨lg, rfl, rfl⟩ := hr
      have newS : (z.heap.push { cls := .type "set", dict := none, data := .set #[] 0 (.fresh 0 0 lg) }).get? z.heap.objs.size = some { cls := .type "set", dict := none, data := .set #[] 0 (.fresh 0 0 lg) } := Heap.get?_push_size _ rfl
      have tyS : Shared.TypeIs { z with heap := z.heap.push { cls := .type "set", dict := none, data := .set #[] 0 (.fresh 0 0 lg) } } (.ref z.heap.objs.size) "set" := ⟨_, newS, rfl⟩
      have lkI := F.called_set.init.lookup
      have bdI := F.called_set.init.bind (.ref z.heap.objs.size)
      repeat (any_goals (first | assumption | wp_step))
      refine codeAny_mono (codeAny_call_builtin (R := wants (fun r z₂ => r = .none ∧ ∃ h' tk, z₂ = { z with heap := h', toks := tk } ∧ h'.SetOf (mixKind prog w) z.heap.objs.size (fun k' => decide (k' ∈ met ks)) (met ks).length ∧
          (∀ c o, c < z.heap.objs.size → z.heap.get? c = some o → h'.get? c = some o)) E) F.called_set.init.plain F.entry_set_init (check_set_init_1 tyS ?_)) fun r₂ z₂ hr₂ => ?_
      · obtain ⟨ol, hol, hcl, nl, hdl⟩ := hl
        obtain ⟨olc, old, oldt, olsl⟩ := ol
        simp only at hcl hdl
        subst hcl hdl
        have hol2 : (z.heap.push { cls := .type "set", dict := none, data := .set #[] 0 (.fresh 0 0 lg) }).get? l = some { cls := .type "list", dict := old, data := .seq items nl, slots := olsl } := Heap.get?_push_of_some _ hol
        have subLS := F.sub_list_set
        have subLF := F.sub_list_frozenset
        have notD : (Value.type "list" == Value.type "dict") = false := by decide
        have isl : (z.heap.push { cls := .type "set", dict := none, data := .set #[] 0 (.fresh 0 0 lg) }).IsList l items := ⟨_, hol2, rfl, nl, rfl⟩
        unfold Builtin.«set.__init__» noKeywords Builtin.Frozenset.updateFrom
        generalize hPI : pyIter = PIt
        wp_walk
        subst hPI
        refine wpAny_pyIter_list isl (wpAny_bind (wpAny_runValue ?_))
        have ltS : l < z.heap.objs.size := Heap.lt_size hol
        have hA3 : A.in1.in1.in1.handled = none := by simp [hA]
        have neI : l ≠ (z.heap.push { cls := .type "set", dict := none, data := .set #[] 0 (.fresh 0 0 lg) }).objs.size := by
          rw [Heap.size_push]
          exact Nat.ne_of_lt (Nat.lt_succ_of_lt ltS)
        have nfS : z.heap.objs.size ∉ [(z.heap.push { cls := .type "set", dict := none, data := .set #[] 0 (.fresh 0 0 lg) }).objs.size, l] := by
          rw [Heap.size_push]
          intro q
          rcases List.mem_cons.mp q with q | q
          · exact absurd q (Nat.ne_of_lt (Nat.lt_succ_self _))
          · exact absurd (List.mem_singleton.mp q) (Nat.ne_of_gt ltS)
        have eks : ks.take items.size = ks := by rw [← hk, List.take_length]
        refine setLoopK ((Walks.list hA3 _ l neI items).toS) z.heap.objs.size nfS ks hk hb hv (fun _ _ => trivial) (items.size - 0) 0 _ (by omega) (Nat.zero_le _) ⟨⟨_, Heap.get?_push_size _ rfl, rfl, rfl⟩, (isl.push _)⟩ ?start ?done
        case start =>
          have hget : ((z.heap.push { cls := .type "set", dict := none, data := .set #[] 0 (.fresh 0 0 lg) }).push { cls := .type "list_iterator", data := .fields #[.ref l, .int 0 0] }).get? z.heap.objs.size
              = some { cls := .type "set", dict := none, data := .set #[] 0 (.fresh 0 0 lg) } := Heap.get?_push_of_some _ newS
          exact SetOf_congr ((setObjOf_fresh (knd := mixKind prog w) lg).setOf hget (by unfold scanBound; omega)) (fun _ => rfl) rfl
        case done =>
          intro z' mv s4
          obtain ⟨h', g', d', tk', os'⟩ := z'
          obtain rfl : g' = z.gens := mv.gens
          obtain rfl : d' = z.drawn := mv.drawn
          obtain rfl : os' = z.os := mv.os
          rw [eks] at s4
          refine wpAny_pure ?_
          show wpAny _ _ (ret Value.none) _ _ _
          refine wpAny_pure ⟨rfl, h', tk', rfl, s4, fun c o hc e => ?_⟩
          refine mv.heap c o (fun q => ?_) (Heap.get?_push_of_some _ (Heap.get?_push_of_some _ e))
          rcases List.mem_cons.mp q with q | q
          · exact absurd q (Nat.ne_of_lt hc)
          · have q := List.mem_singleton.mp q
            rw [Heap.size_push] at q
            exact absurd q (Nat.ne_of_lt (Nat.lt_succ_of_lt hc))
      · cases r₂ with
        | error e => exact hr₂
        | ok fl₂ =>
          cases fl₂ with
          | ret r =>
            obtain ⟨rfl, h', tk, rfl, s5, keep⟩ := hr₂
            repeat (any_goals (first | assumption | wp_step))
            exact h _ _ s5 keep
          | _ => exact hr₂.elim
    | _ => exact hr.elim
end
end DL
namespace DL
open PySem PySem.Spec PyProof.Rows L2
def tLenSetK (K : PySem.W.Frag) (ta : TE) : TE := fun σ H Q => ta σ H fun x H1 => ∃ (l : Addr) (ks : List L2.Key), x = .ref l ∧ SqL K H1 l (ks.map kV) ∧ ks.length + 1 < 4096 ∧ Q (.int (met ks).length) H1
theorem pe_lenSetK {X : Cx} {a : Expr} {ta : TE} {p p2 q pos : Pos} (hg : Gl X "len") (hm : X.mg "len" = none) (hg2 : Gl X "set") (hm2 : X.mg "set" = none) (ha : PE X a ta) (hc : X.calm = true := by rfl)
    (na : starEach [a] X.env = (false, eval a X.env) :: starEach [] X.env := by rfl) : PE X (.Call (.Name "len" p) [.Call (.Name "set" p2) [a] [] q] [] pos) (tLenSetK X.K ta) := by
  refine ⟨fun pins st σ H Q I h => ?_⟩
  refine Call_ (ld_blt I hg hm boot_len (callWith_builtin1 (args_cons ?_ rfl) rfl rfl))
  refine Call_ (ld_blt I hg2 hm2 boot_set (callWith_type1 (args_cons (thn (ha.run pins st σ H _ I h) fun v s1 ⟨x, H1, I1, r1, q1⟩ => args_nil ?_) na) na rfl))
  obtain ⟨l, ks, rfl, hq, hl, q1⟩ := q1
  cases r1
  obtain ⟨its, r, pl, hz⟩ := I1.list hq
  have hsz : its.toArray.size = ks.length := by rw [List.size_toArray, ← r.length, List.length_map]
  have hval : ∀ (i : Nat) (v : Value), its.toArray[i]? = some v → ∃ k, ks[i]? = some k ∧ (mixKind X.prog X.w).is k v = true ∧ v.scannable = true := fun i v e => by
    have e : its[i]? = some v := by simpa using e
    have hi : i < ks.length := by rw [← hsz, List.size_toArray]; exact (List.getElem?_eq_some_iff.mp e).1
    obtain ⟨u, hu, r2⟩ := r.get (i := i) (x := kV ks[i]) (by rw [List.getElem?_map, List.getElem?_eq_getElem hi]; rfl)
    rw [e] at hu
    cases hu
    exact ⟨ks[i], List.getElem?_eq_getElem hi, kV_is r2, key_scan r2⟩
  refine setOfList (I1.ok.hd hc) pl.isList hsz.symm (by rw [hsz]; unfold scanBound; omega) hval fun h' tk hS hk => args_nil ?_
  obtain ⟨o, es, ep, t, ho, hex, hd, _, _, _, hf, hn⟩ := hS
  have I2 : Inv X pins σ H1 { s1 with heap := h', toks := tk } := I1.kept fun b o e => hk b o (Heap.lt_size e) e
  have hle := met_len_le ks
  exact call_len_set ho hex hd hf (by rw [hn]; omega) ⟨.int (met ks).length, H1, I2.tok _, ⟨_, by rw [hn]⟩, q1⟩
section
variable {Z : ZX} {X : Cx} {K : PySem.W.Frag} {F : Hp}
def keysL (d : D) (k : List L2.Key → Prop) (l : Lock k) : Prop := match d with
  | .lst ds => wD (D.keys ds) k l
  | _ => False
theorem keysL_l {ds : List D} {k l} : keysL (.lst ds) k l = wD (D.keys ds) k l := rfl
def mLenSet (m : TD) : TD := fun s Q => m s fun w s1 => wD (res s1 w) (fun d => keysL d (fun ks => ks.length + 1 < 4096 ∧ Q (.val (.fz (.int (met ks).length))) s1) .mk) .mk
theorem s_lenSet {m : TD} {s : DSt} {Q} : mLenSet m s Q = m s fun w s1 => wD (res s1 w) (fun d => keysL d (fun ks => ks.length + 1 < 4096 ∧ Q (.val (.fz (.int (met ks).length))) s1) .mk) .mk := rfl
theorem Lift.lenSet {t : TE} {m : TD} (l : Lift Z t m) : Lift Z (tLenSetK Z.K t) (mLenSet m) := by
  intro σ H F A s Q Qd R h k
  refine l σ H F A s _ _ R h fun w s1 v F1 H1 Av A1 h1 o1 => ?_
  obtain ⟨d, e, h2⟩ := wD_ex h1
  cases d with
  | lst ds =>
    obtain ⟨ks, ek, hl, q⟩ := wD_ex (l := .mk) h2
    obtain ⟨m, C, ow, em⟩ := o1.wow.res o1.own e
    obtain ⟨a, xs, rfl, hH, zs⟩ := ow.lstV o1.sub em
    have ex := zs.keys ek
    subst ex
    exact ⟨a, ks, rfl, SqL.of hH, hl, k _ _ _ _ _ _ _ q (o1.flat (.int _))⟩
  | _ => exact h2.elim
theorem de_lenSet {a : Expr} {t : TE} {m : TD} {p p2 q pos : Pos} (hK : X.K = Z.K) (hc : X.calm = true) (hg : Gl X "len") (hm : X.mg "len" = none) (hg2 : Gl X "set") (hm2 : X.mg "set" = none) (ha : DE Z X a t m)
    (na : starEach [a] X.env = (false, eval a X.env) :: starEach [] X.env := by rfl) : DE Z X (.Call (.Name "len" p) [.Call (.Name "set" p2) [a] [] q] [] pos) (tLenSetK Z.K t) (mLenSet m) :=
  ⟨by rw [← hK]; exact pe_lenSetK hg hm hg2 hm2 ha.pe hc na, .lenSet ha.lf⟩
end
end DL
namespace DL
open PySem PySem.Spec L2
section
variable {P : Program} {w : World} {K : PySem.W.Frag} {mg : Str → Option Value} {base : Heap}
def BodyOk (P : Program) (w : World) (K : PySem.W.Frag) (mg : Str → Option Value) (base : Heap) (T : List (Addr × Str)) (k : Nat) (qual : Str) (st : Stmt) (N : List Str) (io : Bool) (c : CT) : Prop :=
  ∀ (f : Addr) (cdv : Value) (A : Around) (outer : List Env) (s : Shared) (H : Hp) (E : XK) (x0 : V) (Xd : Value → Pay → List M → Prop), Room k (A.deeper (PyProof.Rows.envOfC qual (defScope st) s.heap.objs.size f cdv)) →
      ∃ t m, DSs ⟨K, fun cls d _ H' => E cls d H', fun cls pl s' => fin io x0 s' (Xd cls pl), T⟩ (cxOf (L2.CX P w) P w K mg base N qual (defScope st) f cdv A outer s H E) (defBody st) t m ∧
        ∀ ms Rd, c ms Rd Xd → m ⟨fun s' => fin io x0 s' (Rd (.fz .non)), fun r s' => fin io x0 s' (Rd r), fun _ => False, fun _ => False⟩ (startD io x0 ms N.length)
theorem mtAtM {x qual : Str} {st : Stmt} {N ps : List Str} {k : Nat} {io : Bool} {c : CT} {T : List (Addr × Str)} {f C : Addr} (cl : Cls K C) (hm : Meth K C x f) (Tf : TopMt K x qual st ps f) (S : FnScope N ps (defScope st)) (hlen : ∀ ms R X, c ms R X → ms.length = ps.length) (hio : io = true → 0 < ps.length)
    (hbody : BodyOk P w K mg base T k qual st N io c) : MtAt P w K mg base T (k + 1) C x ps io c := by
  obtain ⟨fd, h1, h2⟩ := mtAt (k := k) Tf S hlen hio hbody
  exact ⟨f, fd, h1, cl, hm, h2⟩
theorem mtAtI {x qual : Str} {st : Stmt} {N ps : List Str} {k : Nat} {c : CT} {T : List (Addr × Str)} {f C : Addr} (hg : mg x = some (.ref C)) (hm : Mk K C f) (Tf : TopMt K "__init__" qual st ps f) (S : FnScope N ps (defScope st)) (hlen : ∀ ms R X, c ms R X → ms.length = ps.length) (hio : true = true → 0 < ps.length)
    (hbody : BodyOk P w K mg base T k qual st N true c) : InAt P w K mg base T (k + 1) x C ps c := by
  obtain ⟨fd, h1, h2⟩ := mtAt (k := k) Tf S hlen hio hbody
  exact ⟨f, fd, h1, hg, hm, h2⟩
theorem topMt_mk {K : PySem.W.Frag} {x qual : Str} {st : Stmt} {ps : List Str} {f : Addr} {oc : Value} {od an : Option Addr} {osl : Array (Option Value)} {kV doc pm cdv ct : Value}
    (l : K.lookup f = some ⟨oc, od, .func (PySem.W.fnOf x qual (defArgs st) (defBody st) (defScope st) .none kV doc pm an cdv ct), osl⟩) (c : PySem.W.codeIn K cdv qual = true) (k : PySem.W.keepIn K (.ref f) = true)
    (hb : ∀ (kV doc pm : Value) (an : Option Addr) (cdv ct : Value) (us : List Value), us.length = ps.length → bindArgs (PySem.W.fnOf x qual (defArgs st) (defBody st) (defScope st) .none kV doc pm an cdv ct) ⟨us, []⟩ = pure (ps.zip us)) : TopMt K x qual st ps f :=
  ⟨_, fun_mk l c k, .all (hb _ _ _ _ _ _)⟩
end
theorem lk_hd {f : Str} {d : D} {r : List (Str × D)} : List.lookup f ((f, d) :: r) = some d := by simp [List.lookup]
theorem fz_nil : MF.nil.frz = [] := rfl
theorem fz_cons {f : Str} {y : FV} {r : MF} : (MF.cons f y r).frz = (f, y.frz) :: r.frz := rfl
theorem fz_f {d : D} : (FV.fz d).frz = d := rfl
theorem fz_o {x : V} {m : M} : (FV.own x m).frz = m.frz := rfl
theorem fz_mo {C : Addr} {fs : MF} : (M.mo C fs).frz = .obj C fs.frz := rfl
theorem len_nil : MF.nil.len = 0 := rfl
theorem len_cons {f : Str} {y : FV} {r : MF} : (MF.cons f y r).len = r.len + 1 := rfl
theorem put_nil {f : Str} {y : FV} : MF.nil.put f y = .cons f y .nil := rfl
end DL
namespace DL
open PySem PySem.Spec L2
section
variable {Z : ZX} {X : Cx} {s : DSt} {i : Nat} {pos : Pos}
def asZ (z : M) (k : D → Prop) (l : Lock k) : Prop := match z with
  | .fz d => k d
  | _ => False
theorem asZ_f {d : D} {k l} : asZ (.fz d) k l = k d := rfl
def mAugL (i : Nat) (mi me : TD) (f : D → D → M → Prop) : TSd := fun D0 s => hasL (slotM s i) ∧ mi s fun w1 s1 => wD (res s1 w1) (fun xi => asI xi (fun k => wD (slotM s1 i) (fun m => asL m (fun ds => wD (atI ds k) (fun x => me s1 fun w2 s2 => wD (res s2 w2) (fun y => opz (f x y) (fun z => asZ z (fun d =>
  wD (slotM s2 i) (fun m2 => asL m2 (fun ds2 => wD (ixN ds2.length k) (fun j => D0.nx (setM s2 i (.ml (ds2.set j d)))) .mk) .mk) .mk) .mk) .mk) .mk) .mk) .mk) .mk) .mk) .mk
theorem s_augL {mi me : TD} {f : D → D → M → Prop} {D0 : DEnds} : mAugL i mi me f D0 s = (hasL (slotM s i) ∧ mi s fun w1 s1 => wD (res s1 w1) (fun xi => asI xi (fun k => wD (slotM s1 i) (fun m => asL m (fun ds => wD (atI ds k) (fun x => me s1 fun w2 s2 => wD (res s2 w2) (fun y => opz (f x y) (fun z => asZ z (fun d =>
  wD (slotM s2 i) (fun m2 => asL m2 (fun ds2 => wD (ixN ds2.length k) (fun j => D0.nx (setM s2 i (.ml (ds2.set j d)))) .mk) .mk) .mk) .mk) .mk) .mk) .mk) .mk) .mk) .mk) .mk) := rfl
end
end DL
namespace DL
open PySem PySem.Spec PyProof.Rows L2
def SqB (K : PySem.W.Frag) (H : Hp) : Bool → Addr → List V → Prop
  | true, a, xs => SqL K H a xs
  | false, a, xs => SqT K H a xs
def SqIt (h : Heap) : Bool → Addr → Addr → Nat → Prop
  | true, it, a, i => h.IsListIter it a i
  | false, it, a, i => h.IsTupleIter it a i
def SqIs (h : Heap) : Bool → Addr → Array Value → Prop
  | true, a, xs => h.IsList a xs
  | false, a, xs => h.IsTuple a xs
def SqO : Bool → Addr → Obj
  | true, a => { cls := .type "list_iterator", data := .fields #[.ref a, .int 0 0] }
  | false, a => { cls := .type "tuple_iterator", data := .fields #[.ref a, .int 0 0] }
theorem SqIs.lt {h : Heap} {b : Bool} {a : Addr} {xs : Array Value} (x : SqIs h b a xs) : a < h.objs.size := by
  cases b with
  | true => obtain ⟨_, e, _⟩ := x; exact Heap.lt_size e
  | false => obtain ⟨_, e, _⟩ := x; exact Heap.lt_size e
theorem SqIt.obj {h : Heap} {b : Bool} {it a : Addr} {i : Nat} (x : SqIt h b it a i) : ∃ o, h.get? it = some o ∧ ∀ v, o.data ≠ .cell v := by
  cases b with
  | true => obtain ⟨o, e, _, d⟩ := x; exact ⟨o, e, fun v q => by rw [d] at q; cases q⟩
  | false => obtain ⟨o, e, _, d⟩ := x; exact ⟨o, e, fun v q => by rw [d] at q; cases q⟩
theorem SqIt.keep {h h' : Heap} {b : Bool} {it a : Addr} {i : Nat} (x : SqIt h b it a i) (k : ∀ o, h.get? it = some o → h'.get? it = some o) : SqIt h' b it a i := by
  cases b with
  | true => exact Heap.IsListIter.at x k
  | false => exact Heap.IsTupleIter.at x k
theorem sq_start {h : Heap} {b : Bool} {it a : Addr} (e : h.get? it = some (SqO b a)) : SqIt h b it a 0 := by
  cases b with
  | true => exact ⟨_, e, rfl, rfl⟩
  | false => exact ⟨_, e, rfl, rfl⟩
theorem sq_begins (b : Bool) (a : Addr) (xs : Array Value) : Begins (.ref a) (SqO b a) fun h => SqIs h b a xs := by
  cases b with
  | true => exact begins_list a xs
  | false => exact begins_tuple a xs
theorem sq_draws {prog : Program} {w : World} {A : Around} (hh : A.handled = none) (b : Bool) (it a : Addr) (ne : a ≠ it) (xs : Array Value) :
    Draws prog w A it [it, a] xs.size (fun i v => xs[i]? = some v) (fun i h => SqIt h b it a i ∧ SqIs h b a xs) := by
  cases b with
  | true => exact Draws.list hh it a ne xs
  | false => exact Draws.tuple hh it a ne xs
theorem sq_inv {X : Cx} {pins : List (Addr × Obj)} {σ : L2.St} {H : Hp} {s : Shared} (I : Inv X pins σ H s) {b : Bool} {a : Addr} {xs : List V} (q : SqB X.K H b a xs) : ∃ its : List Value, Vals xs its ∧ SqIs s.heap b a its.toArray := by
  cases b with
  | true => obtain ⟨its, rv, p, _⟩ := I.list q; exact ⟨its, rv, p.isList⟩
  | false => obtain ⟨its, rv, p, _⟩ := I.tuple q; exact ⟨its, rv, p⟩
theorem sq_inj {X : Cx} {pins : List (Addr × Obj)} {σ : L2.St} {H : Hp} {s : Shared} (I : Inv X pins σ H s) {b : Bool} {a : Addr} {xs ys : List V} (q : SqB X.K H b a xs) (q' : SqB X.K H b a ys) : xs = ys := by
  cases b with
  | true => exact I.list_inj q q'
  | false => exact I.tuple_inj q q'
def ItzM (K : PySem.W.Frag) (p q : Bool) (a b : Addr) : It :=
  ⟨fun i H => ∃ xs ys : List V, SqB K H p a xs ∧ SqB K H q b ys ∧ i < xs.length ∧ i < ys.length,
    fun i H v H' => ∃ T x y, v = .ref T ∧ H T = none ∧ H' = upd H T (.tup [x, y]) ∧ (∀ xs, SqB K H p a xs → xs[i]? = some x) ∧ ∀ ys, SqB K H q b ys → ys[i]? = some y,
    fun i H => ∃ xs ys : List V, SqB K H p a xs ∧ SqB K H q b ys ∧ i = min xs.length ys.length⟩
theorem zipSep {n a b : Nat} (h1 : a < n) (h2 : b < n) : ZipSep2 (n + 4) (n + 2) (n + 3) n (n + 1) [n, a] [n + 1, b] := by
  have nn : ∀ i j : Nat, i ≠ j → n + i ≠ n + j := fun i j h e => h (Nat.add_left_cancel e)
  have n0 : ∀ i : Nat, n + (i + 1) ≠ n := fun i e => by omega
  have na : ∀ i : Nat, n + i ≠ a := fun i e => by omega
  have nb : ∀ i : Nat, n + i ≠ b := fun i e => by omega
  have t : ∀ x u v : Nat, x ≠ u → x ≠ v → x ∉ [u, v] := fun x u v p q m => by
    rcases List.mem_cons.mp m with e | m
    · exact p e
    · exact q (List.mem_singleton.mp m)
  exact ⟨nn _ _ (by decide), nn _ _ (by decide), nn _ _ (by decide), n0 1, List.mem_cons_self .., t _ _ _ (n0 3) (na 4), t _ _ _ (n0 2) (na 3), nn _ _ (by decide), List.mem_cons_self .., t _ _ _ (nn _ _ (by decide)) (nb 4), t _ _ _ (nn _ _ (by decide)) (nb 3), t _ _ _ (Ne.symm (n0 0)) (nb 0), t _ _ _ (n0 0) (na 1)⟩
theorem turnM {P : Program} {w : World} {K : PySem.W.Frag} {elts : List Expr} {kk : Nat} {tpos : Pos} {p q : Bool} {a b z TI TO i1 i2 : Addr} (S : ZipSep2 z TI TO i1 i2 [i1, a] [i2, b]) (na : a ≠ i1) (nb : b ≠ i2) :
    Turn P w K (.Tuple elts kk tpos) (ItzM K p q a b) [z, TI, TO, i1, i2] z (fun i h => IsZip h z TI TO .none ∧ IsPair h TI (.ref i1) (.ref i2) ∧ (∃ x y, IsPair h TO x y) ∧ SqIt h p i1 a i ∧ SqIt h q i2 b i) where
  mem := by simp
  obj := fun i h ⟨hz, hTI, ⟨x, y, hTO⟩, t1, t2⟩ c hc => by
    have e' : c = z ∨ c = TI ∨ c = TO ∨ c = i1 ∨ c = i2 := by simpa using hc
    rcases e' with rfl | rfl | rfl | rfl | rfl
    · exact ⟨_, hz, fun v r => nomatch r⟩
    · exact ⟨_, hTI, fun v r => nomatch r⟩
    · exact ⟨_, hTO, fun v r => nomatch r⟩
    · exact t1.obj
    · exact t2.obj
  keep := fun i h h' ⟨hz, hTI, ⟨x, y, hTO⟩, t1, t2⟩ k =>
    ⟨k z (by simp) _ hz, k TI (by simp) _ hTI, ⟨x, y, k TO (by simp) _ hTO⟩, t1.keep fun o e => k i1 (by simp) o e, t2.keep fun o e => k i2 (by simp) o e⟩
  item := by
    intro X hP hw hK hc i pins s σ H E I hf ⟨hz, hTI, ⟨x0, y0, hTO⟩, t1, t2⟩ ⟨xs, ys, qx, qy, l1, l2⟩
    subst hP hw hK
    have hd := I.ok.hd hc
    obtain ⟨us, rv, p1⟩ := sq_inv I qx
    obtain ⟨us2, rv2, p2⟩ := sq_inv I qy
    have zl : z < s.heap.objs.size := Heap.lt_size hz
    have m1 : i < us.toArray.size := by have := rv.length; simp; omega
    have m2 : i < us2.toArray.size := by have := rv2.length; simp; omega
    have old : ∀ c ∈ [z, TI, TO, i1, i2], c < s.heap.objs.size := fun c hm => by
      have e' : c = z ∨ c = TI ∨ c = TO ∨ c = i1 ∨ c = i2 := by simpa using hm
      rcases e' with rfl | rfl | rfl | rfl | rfl
      · exact zl
      · exact Heap.lt_size hTI
      · exact Heap.lt_size hTO
      · exact Heap.lt_size t1.obj.choose_spec.1
      · exact Heap.lt_size t2.obj.choose_spec.1
    refine wpAny_pyNext_zipD2_item S (sq_draws (A := X.A.in1) hd p i1 a na us.toArray) (sq_draws (A := X.A.in1) hd q i2 b nb us2.toArray) hz hTI hTO ⟨t1, p1⟩ ⟨t2, p2⟩ m1 m2 fun u u2 h1 tk hu hu2 z1 TO1 v1 v2 T1 _ kp => ?_
    refine ⟨_, rfl, wpAny_letOwnedTupleGo_zip (s := { s with heap := h1, toks := tk }) z1 fun h2 z2 sb => ?_⟩
    have same : ∀ c, c ≠ z → ∀ o, h1.get? c = some o → h2.get? c = some o := fun c hcz o e => (sb.2 c hcz).trans e
    have gx := List.getElem?_eq_getElem l1
    have gy := List.getElem?_eq_getElem l2
    have hx : RelV xs[i] u := by
      obtain ⟨u', e, r⟩ := rv.get gx
      have : us[i]? = some u := by simpa using hu
      rw [this] at e; cases e; exact r
    have hy : RelV ys[i] u2 := by
      obtain ⟨u', e, r⟩ := rv2.get gy
      have : us2[i]? = some u2 := by simpa using hu2
      rw [this] at e; cases e; exact r
    have T2 := same _ (Nat.ne_of_gt zl) _ T1
    have new : ObjOk X.prog X.w (upd H s.heap.objs.size (.tup [xs[i], ys[i]])) h2 s.heap.objs.size (.tup [xs[i], ys[i]]) :=
      ⟨(show 2 ≤ sizeLine by decide), [u, u2], .cons hx (.cons hy .nil), ⟨_, T2, rfl, _, rfl⟩⟩
    have I1 : Inv X pins σ (upd H s.heap.objs.size (.tup [xs[i], ys[i]])) { s with heap := h2, toks := tk } := by
      refine I.turnedNew (ch := [z, TI, TO, i1, i2]) (fun c o hb e => ?_) hf (Nat.le_refl _) new
      have f : c ≠ z ∧ c ≠ TI ∧ c ≠ TO ∧ c ≠ i1 ∧ c ≠ i2 := by simpa using hb
      exact same c f.1 o (kp c o f.1 f.2.2.1 f.2.2.2.1 f.2.2.2.2 e)
    refine ⟨.ref s.heap.objs.size, _, I1, rfl, ⟨_, _, _, rfl, I.hok.fresh (Nat.le_refl _), rfl, fun l hl => by rw [sq_inj I hl qx]; exact gx, fun l hl => by rw [sq_inj I hl qy]; exact gy⟩,
      ⟨z2, same _ S.TIz _ (kp _ _ S.TIz S.TITO S.TIi1 S.TIi2 hTI), ⟨_, _, same _ S.TOz _ TO1⟩, v1.1.keep fun o e => same _ (Ne.symm S.zi1) _ e, v2.1.keep fun o e => same _ (Ne.symm S.zi2) _ e⟩, fun c hm => ?_⟩
    rw [upd_ne (Nat.ne_of_lt (old c hm))]
    exact (hf c hm).1
  done := by
    intro X hP hw hK hc i pins s σ H E I hf ⟨hz, hTI, ⟨x0, y0, hTO⟩, t1, t2⟩ ⟨xs, ys, qx, qy, ei⟩
    subst hP hw hK
    have hd := I.ok.hd hc
    obtain ⟨us, rv, p1⟩ := sq_inv I qx
    obtain ⟨us2, rv2, p2⟩ := sq_inv I qy
    have n1 := rv.length
    have n2 := rv2.length
    refine wpAny_pyNext_zipD2_end S (sq_draws (A := X.A.in1) hd p i1 a na us.toArray) (sq_draws (A := X.A.in1) hd q i2 b nb us2.toArray) hz hTI hTO ⟨t1, p1⟩ ⟨t2, p2⟩ (by simp; omega) (by simp; omega) (by simp; omega) fun h1 tk kp => ⟨rfl, ?_⟩
    refine I.turnedL (ch := [z, TI, TO, i1, i2]) (fun c o hb e => ?_) hf
    have f : c ≠ z ∧ c ≠ TI ∧ c ≠ TO ∧ c ≠ i1 ∧ c ≠ i2 := by simpa using hb
    exact kp c o f.1 f.2.2.1 f.2.2.2.1 f.2.2.2.2 e
  self := fun A i s Q E st h => wpAny_pyIter_zip st.1 h
def iZipM (K : PySem.W.Frag) (ta : TA) : TI := fun σ H R => ta σ H fun vs H1 => ∃ p q a b xs ys, vs = [.ref a, .ref b] ∧ SqB K H1 p a xs ∧ SqB K H1 q b ys ∧ R (ItzM K p q a b) H1
theorem pi_zipM {X : Cx} {e e2 : Expr} {ta : TA} {p pos tpos : Pos} {elts : List Expr} {kk : Nat} (hg : Gl X "zip") (hm : X.mg "zip" = none) (ha : PA X [e, e2] ta)
    (hs : starEach [e, e2] X.env = (false, eval e X.env) :: starEach [e2] X.env := by rfl) (hpl : (backTo pos (starEach [e2] X.env)).any (·.1) = false := by rfl) :
    PI X (.Tuple elts kk tpos) (.Call (.Name "zip" p) [e, e2] [] pos) (iZipM X.K ta) := by
  refine ⟨fun pins s σ H R I h => ?_⟩
  refine Call_ (ld_blt I hg hm PyProof.Rows.boot_zip (PyProof.Rows.callWith_type1 (thn (ha.run pos pins s σ H _ I h) fun us s1 ⟨vs, H1, I1, r1, kA, kB, a, b, xs, ys, ex, qx, qy, k⟩ => ?_) hs hpl))
  subst ex
  cases r1 with
  | cons r rr =>
    cases rr with
    | cons r' rr =>
      cases rr
      cases r
      cases r'
      obtain ⟨us, rv, p1⟩ := sq_inv I1 qx
      obtain ⟨us2, rv2, p2⟩ := sq_inv I1 qy
      refine zip_begins2 (sq_begins kA a us.toArray) (sq_begins kB b us2.toArray) p1 p2 fun h' hz hTI hTO h1 h2 _ kp => wpAny_pyIter_zip hz ?_
      refine ⟨s1.heap.objs.size + 4, [s1.heap.objs.size + 4, s1.heap.objs.size + 2, s1.heap.objs.size + 3, s1.heap.objs.size, s1.heap.objs.size + 1], _, _, H1, rfl, I1.kept (t' := s1.toks) kp,
        turnM (zipSep p1.lt p2.lt) (Nat.ne_of_lt p1.lt) (Nat.ne_of_lt (Nat.lt_succ_of_lt p2.lt)), ⟨hz, hTI, ⟨_, _, hTO⟩, sq_start h1, sq_start h2⟩, fun c hm => ?_, k⟩
      have le : s1.heap.objs.size ≤ c := by
        simp only [List.mem_cons, List.not_mem_nil, or_false] at hm
        rcases hm with rfl | rfl | rfl | rfl | rfl <;> first | exact Nat.le_add_right _ _ | exact Nat.le_refl _
      exact I1.fpOk le (I1.hok.fresh le)
section
variable {K : PySem.W.Frag}
theorem Sub.sqB {F H : Hp} (s : Sub F H) {b : Bool} {a : Addr} {xs : List V} (q : SqB K F b a xs) : SqB K H b a xs := by
  cases b with
  | true => exact s.sqL q
  | false => exact s.sqT q
theorem itd_zipM {p q : Bool} {a b : Addr} {xs ys : List V} {ds es : List D} : ItD K (ItzM K p q a b) (zipD ds es) (fun F => (SqB K F p a xs ∧ Fzs K F xs ds) ∧ SqB K F q b ys ∧ Fzs K F ys es) where
  mono := fun F F' s g => ⟨⟨(Sub.of s).sqB g.1.1, g.1.2.mono (Sub.of s)⟩, (Sub.of s).sqB g.2.1, g.2.2.mono (Sub.of s)⟩
  go := fun i F H sb g hi => by
    have l1 := g.1.2.length
    have l2 := g.2.2.length
    rw [zipD_len] at hi
    exact ⟨xs, ys, sb.sqB g.1.1, sb.sqB g.2.1, by omega, by omega⟩
  yld := fun i F H v H' d sb g hd hy => by
    obtain ⟨T, x, y, rfl, hT, rfl, f1, f2⟩ := hy
    obtain ⟨e, e2, he, he2, rfl⟩ := zipD_get hd
    obtain ⟨u, hx, z1⟩ := g.1.2.get he
    obtain ⟨u2, hx2, z2⟩ := g.2.2.get he2
    have o1 := (f1 xs (sb.sqB g.1.1)).symm.trans hx
    have o2 := (f2 ys (sb.sqB g.2.1)).symm.trans hx2
    cases o1
    cases o2
    exact new_pair sb hT z1 z2
  stop := fun F H sb g => ⟨xs, ys, sb.sqB g.1.1, sb.sqB g.2.1, by rw [zipD_len, g.1.2.length, g.2.2.length]⟩
end
def mZipM (m : TDs) : TId := fun s R => m s fun ws s1 => tvs ws s1 fun ms s2 => ∃ x, ∃ y, ms = [x, y] ∧ ∃ p, x.frz.sq = some p ∧ ∃ q, y.frz.sq = some q ∧ R (zipD p.2 q.2) s2
theorem s_zipM {m : TDs} {s : DSt} {R} : mZipM m s R = m s fun ws s1 => tvs ws s1 fun ms s2 => two ms (fun x y => wD x.frz.sq (fun p => wD y.frz.sq (fun q => R (zipD p.2 q.2) s2) .mk) .mk) .mk := by
  have : ∀ (o : Option (Bool × List D)) (k : Bool × List D → Prop), (∃ q, o = some q ∧ k q) = wD o k .mk := fun o k => wD_eq
  unfold mZipM
  simp only [two_eq, this]
section
variable {Z : ZX} {X : Cx} {K : PySem.W.Frag} {F H : Hp} {v : V} {pos : Pos}
theorem LiftI.zipM {t : TA} {m : TDs} (l : Lifts Z t m) : LiftI Z (iZipM Z.K t) (mZipM m) := by
  intro σ H F A s R Rd Re h k
  refine l σ H F A s _ _ Re h fun ws s1 vs F1 H1 Av A1 h1 o1 => ?_
  obtain ⟨ms, s2, F2, A2, ⟨x, y, rfl, ⟨kA, ds⟩, hp, ⟨kB, es⟩, hq, r⟩, o, z⟩ := tvs_fzT o1 h1
  cases z with
  | cons z zz =>
    cases zz with
    | cons z2 zz =>
      cases zz
      obtain ⟨a, xs, rfl, hs, zs⟩ := z.sqAt hp
      obtain ⟨a2, ys, rfl, hs2, zs2⟩ := z2.sqAt hq
      have g1 : SqB Z.K F2 kA a xs := by cases kA <;> simpa [SqB] using hs
      have g2 : SqB Z.K F2 kB a2 ys := by cases kB <;> simpa [SqB] using hs2
      exact ⟨kA, kB, a, a2, xs, ys, rfl, o.sub.sqB g1, o.sub.sqB g2, k _ _ _ _ _ _ _ r o itd_zipM ⟨⟨g1, zs⟩, g2, zs2⟩⟩
theorem di_zipM {e e2 : Expr} {p tpos : Pos} {elts : List Expr} {kk : Nat} {t : TA} {m : TDs} (hK : X.K = Z.K) (hg : Gl X "zip") (hm : X.mg "zip" = none) (ha : DA Z X [e, e2] t m)
    (hs : starEach [e, e2] X.env = (false, eval e X.env) :: starEach [e2] X.env := by rfl) (hpl : (backTo pos (starEach [e2] X.env)).any (·.1) = false := by rfl) : DI Z X (.Tuple elts kk tpos) (.Call (.Name "zip" p) [e, e2] [] pos) (iZipM Z.K t) (mZipM m) :=
  ⟨by rw [← hK]; exact pi_zipM hg hm ha.pa hs hpl, .zipM ha.lf⟩
end
end DL
namespace DL
open PySem PySem.Spec L2
def iKeysO (td : TE) : TI := fun σ H R => td σ H fun x H1 => ∃ d, x = .ref d ∧ ((∃ o kvs, H1 d = some (.frz o (.dT kvs)) ∧ R (Itkt d o kvs) H1) ∨ ∃ kvs, H1 d = some (.dT kvs) ∧ ∀ o, R (Itkt d o kvs) (upd H1 d (.frz o (.dT kvs))))
end DL
namespace DL
open PySem PySem.Spec L2
def keyD : Key → D
  | .inl i => .int i
  | .inr x => .str x
def keysT (ds : List (List Key × D)) : List D := ds.map fun p => .tup (p.1.map keyD)
def mKeyM (m : M) (k1 : List D → Prop) (k2 : List (List Key × D) → Prop) : Prop := match m with
  | .mt ds => k2 ds
  | .fz (.dil ds) => k1 (keysT ds)
  | _ => False
def keyZ (w : W) (s : DSt) (k : List D → DSt → Prop) (l : Lock k) : Prop := match w with
  | .val m => mKeyM m (fun ds => k ds s) fun ds => k (keysT ds) s
  | .slot i => wD (slotM s i) (fun m => mKeyM m (fun ds => k ds s) fun ds => k (keysT ds) (setM s i (.fz (.dil ds)))) .mk
  | .fld _ _ _ => False
theorem z_valT {ds : List (List Key × D)} {s k l} : keyZ (.val (.mt ds)) s k l = k (keysT ds) s := rfl
theorem z_valL {ds : List (List Key × D)} {s k l} : keyZ (.val (.fz (.dil ds))) s k l = k (keysT ds) s := rfl
theorem z_slot {i : Nat} {s : DSt} {k l} : keyZ (.slot i) s k l = wD (slotM s i) (fun m => mKeyM m (fun ds => k ds s) fun ds => k (keysT ds) (setM s i (.fz (.dil ds)))) .mk := rfl
theorem z_mT {ds : List (List Key × D)} {k1 k2} : mKeyM (.mt ds) k1 k2 = k2 ds := rfl
theorem z_mL {ds : List (List Key × D)} {k1 k2} : mKeyM (.fz (.dil ds)) k1 k2 = k1 (keysT ds) := rfl
def mKeys (m : TD) : TId := fun s R => m s fun w s1 => keyZ w s1 R .mk
theorem s_keys {m : TD} {s : DSt} {R} : mKeys m s R = m s fun w s1 => keyZ w s1 R .mk := rfl
section
variable {Z : ZX} {X : Cx} {K : PySem.W.Frag} {F H : Hp} {A : List Addr} {σ : L2.St}
theorem Fzt.get : ∀ {kvs : List (List Key × V)} {ds : List (List Key × D)}, Fzt K F kvs ds → ∀ {i : Nat} {p : List Key × D}, ds[i]? = some p → ∃ v, kvs[i]? = some (p.1, v)
  | _, _, .nil, i, p, h => by simp at h
  | _, _, .cons _ r, 0, p, h => by simp at h; subst h; exact ⟨_, rfl⟩
  | _, _, .cons _ r, i + 1, p, h => by simpa using Fzt.get r (by simpa using h)
theorem keyD_fz {ks : List Key} : Fzs K F (ks.map kV) (ks.map keyD) := by
  induction ks with
  | nil => exact .nil
  | cons k ks ih =>
    cases k with
    | inl i => exact .cons (.int i) ih
    | inr x => exact .cons (.str x) ih
theorem itd_keysT {a : Addr} {o : Obj} {kvs : List (List Key × V)} {ds : List (List Key × D)} : ItD K (Itkt a o kvs) (keysT ds) (fun F => F a = some (.frz o (.dT kvs)) ∧ Fzt K F kvs ds) where
  mono := fun F F' s g => ⟨s _ _ g.1, g.2.mono (Sub.of s)⟩
  go := fun i F H sb g hi => ⟨sb.frz g.1, by rw [g.2.length]; simpa [keysT] using hi⟩
  yld := fun i F H x H' d sb g hd hy => by
    obtain ⟨rfl, k, v, q, hk, rfl, hq⟩ := hy
    unfold keysT at hd
    rw [List.getElem?_map] at hd
    obtain ⟨p, hp, rfl⟩ := Option.map_eq_some_iff.mp hd
    obtain ⟨v', hv⟩ := g.2.get hp
    rw [hk] at hv
    cases hv
    -- the key's tuple joins the frozen part
    by_cases hF : F q = some (.tup (p.1.map kV))
    · exact ⟨F, Frm.refl, sb, .tup hF keyD_fz⟩
    · have nF : F q = none := by
        cases e : F q with
        | none => rfl
        | some o' =>
          rcases sb q o' e with h | ⟨_, _, h⟩ | ⟨_, _, ps, h, _⟩
          · rw [hq] at h; cases h; exact absurd e hF
          · rw [hq] at h; cases h
          · rw [hq] at h; cases h
      refine ⟨upd F q (.tup (p.1.map kV)), Frm.exF (fun b o h => ?_) (fun _ _ h => h) (fun _ h => nomatch h) (fun b o h => ?_) (fun b ps h => ?_), fun b o h => ?_, .tup upd_same keyD_fz⟩
      · rw [upd_ne (fun e => by subst e; rw [nF] at h; cases h)]; exact h
      · by_cases e : b = q
        · subst e; exact .inr (.inr (.inr ⟨_, hq⟩))
        · rw [upd_ne e] at h; exact .inl h
      · by_cases e : b = q
        · subst e; rw [upd_same] at h; cases h
        · rw [upd_ne e] at h; exact h
      · by_cases e : b = q
        · subst e; rw [upd_same] at h; cases h; exact .inl hq
        · rw [upd_ne e] at h; exact sb b o h
  stop := fun F H sb g => ⟨sb.frz g.1, by rw [g.2.length]; simp [keysT]⟩
theorem Ow.lockT {v : V} {ds : List (List Key × D)} {B : List Addr} (w : Ow K F H v (.mt ds) B) (sb : Sub F H) : ∃ a kvs, v = .ref a ∧ H a = some (.dT kvs) ∧ B = [a] ∧ Fzt K F kvs ds ∧
    ∀ o, Frm F H [a] (upd F a (.frz o (.dT kvs))) (upd H a (.frz o (.dT kvs))) [] ∧ Sub (upd F a (.frz o (.dT kvs))) (upd H a (.frz o (.dT kvs))) := by
  cases w with
  | @mt a kvs _ nF hH zs =>
    refine ⟨a, kvs, rfl, hH, rfl, zs, fun o => ⟨⟨fun b u h => ?_, fun b u h hb _ => ?_, (fun _ h => nomatch h), fun b u h => ?_, fun b ps h => ?_⟩, fun b u h => ?_⟩⟩
    · rw [upd_ne (fun e => by subst e; rw [nF] at h; cases h)]; exact h
    · rw [upd_ne (fun e => hb (by simp [e]))]; exact h
    · by_cases e : b = a
      · exact .inr (.inl (by simp [e]))
      · rw [upd_ne e] at h; exact .inl h
    · by_cases e : b = a
      · subst e; rw [upd_same] at h; cases h
      · rw [upd_ne e] at h; exact h
    · by_cases e : b = a
      · subst e; rw [upd_same] at h ⊢; exact .inl h
      · rw [upd_ne e] at h
        exact (sb.upd (u := .frz o (.dT kvs)) nF (.inr ⟨_, hH, trivial⟩)) b u h
theorem LiftI.keys {t : TE} {m : TD} (l : Lift Z t m) : LiftI Z (iKeysO t) (mKeys m) := by
  intro σ H F A s R Rd Re h k
  refine l σ H F A s _ _ Re h fun w s1 v F1 H1 Av A1 h1 o1 => ?_
  have locked : ∀ {ds : List (List Key × D)}, (∃ a o kvs, v = .ref a ∧ F1 a = some (.frz o (.dT kvs)) ∧ Fzt Z.K F1 kvs ds) → Rd (keysT ds) s1 → ∃ d, v = .ref d ∧ ((∃ o kvs, H1 d = some (.frz o (.dT kvs)) ∧ R (Itkt d o kvs) H1) ∨ ∃ kvs, H1 d = some (.dT kvs) ∧ ∀ o, R (Itkt d o kvs) (upd H1 d (.frz o (.dT kvs)))) := by
    rintro ds ⟨a, o, kvs, rfl, hF, zs⟩ q
    exact ⟨a, rfl, .inl ⟨o, kvs, o1.sub.frz hF, k _ _ _ _ _ _ _ q o1.t itd_keysT ⟨hF, zs⟩⟩⟩
  cases w with
  | val mm =>
    cases o1.wow with
    | val ow =>
      cases mm with
      | fz d =>
        cases d with
        | dil ds =>
          cases ow with
          | fz z => cases z with
            | dil hF zs => exact locked ⟨_, _, _, rfl, hF, zs⟩ h1
        | _ => exact h1.elim
      | mt ds =>
        obtain ⟨a, kvs, rfl, hH, rfl, zs, fr⟩ := ow.lockT o1.sub
        refine ⟨a, rfl, .inr ⟨kvs, hH, fun o => ?_⟩⟩
        obtain ⟨f2, s2⟩ := fr o
        have f12 : Frm F H A (upd F1 a (.frz o (.dT kvs))) (upd H1 a (.frz o (.dT kvs))) (A1 ++ []) := Frm.trans (A1 := [a]) (B := A1) (o1.fr.weak fun b hb => by simp at hb ⊢; exact hb.symm) f2
        exact k _ _ _ _ _ _ _ h1 ⟨by simpa using f12, s2, o1.own.keep f2 (fun b hb hq => nd_x o1.nd b hq hb), nd_r o1.nd⟩ itd_keysT ⟨upd_same, zs.mono (Sub.of f2.fsub)⟩
      | _ => exact h1.elim
  | slot i =>
    obtain ⟨mm, em, h2⟩ := wD_ex (l := .mk) h1
    obtain ⟨sl, es, em2⟩ := slotM_at em
    obtain ⟨x0, B, C, E, ev, ow, hA, kk⟩ := o1.own.split es em2
    cases o1.wow with
    | slot e =>
      rw [e] at ev
      cases ev
      cases mm with
      | fz d =>
        cases d with
        | dil ds =>
          cases ow with
          | fz z => cases z with
            | dil hF zs => exact locked ⟨_, _, _, rfl, hF, zs⟩ h2
        | _ => exact h2.elim
      | mt ds =>
        obtain ⟨a, kvs, rfl, hH, rfl, zs, fr⟩ := ow.lockT o1.sub
        refine ⟨a, rfl, .inr ⟨kvs, hH, fun o => ?_⟩⟩
        obtain ⟨f2, s2⟩ := fr o
        have nd1 : A1.Nodup := nd_r o1.nd
        have own2 := kk _ _ [a] [] (.fz (.dil ds)) [] f2 (fun b hb hq => by
          rw [hA] at nd1
          have hq : b = a := by simpa using hq
          subst hq
          rcases List.mem_append.mp hb with q | q
          · exact nd_x (nd_l nd1) b q (by simp)
          · exact nd_x nd1 b (by simp) q) (.fz (.dil upd_same (zs.mono (Sub.of f2.fsub))))
        have f12 : Frm F H A (upd F1 a (.frz o (.dT kvs))) (upd H1 a (.frz o (.dT kvs))) (C ++ E) := by
          have f1 : Frm F H A F1 H1 ((C ++ E) ++ [a]) := o1.fr.weak fun b hb => by
            rw [hA]
            simp at hb ⊢
            rcases hb with q | q | q <;> simp [q]
          simpa using Frm.trans (B := C ++ E) f1 f2
        have nd2 : (C ++ E).Nodup := by
          rw [hA] at nd1
          refine nd_mk (nd_l (nd_l nd1)) (nd_r nd1) fun b hb hq => nd_x nd1 b (List.mem_append_left _ hb) hq
        refine k _ _ _ _ _ _ _ h2 ⟨by simpa using f12, s2, ?_, by simpa using nd2⟩ itd_keysT ⟨upd_same, zs.mono (Sub.of f2.fsub)⟩
        unfold setM
        rw [es]
        simpa using own2
      | _ => exact h2.elim
  | fld i f x => exact h1.elim
end
theorem o_ixDT {kvs : List (List Key × D)} {ks : List D} {k l} : opz (dIdx (.dit kvs) (.tup ks)) k l = wD (D.keys ks) (fun js => wD (valD kvs js) (fun d => k (.fz d)) .mk) .mk := by
  unfold opz
  refine propext ⟨?_, fun h => ?_⟩
  · rintro ⟨z, ⟨d, ⟨j, e, e2⟩, rfl⟩, q⟩
    rw [e]
    show wD (valD kvs j) (fun d => k (.fz d)) .mk
    rw [← e2]
    exact q
  · obtain ⟨js, e, h⟩ := wD_ex h
    obtain ⟨d, e2, h⟩ := wD_ex h
    exact ⟨_, ⟨d, ⟨js, e, e2.symm⟩, rfl⟩, h⟩
theorem o_ixDL {kvs : List (List Key × D)} {ks : List D} {k l} : opz (dIdx (.dil kvs) (.tup ks)) k l = wD (D.keys ks) (fun js => wD (valD kvs js) (fun d => k (.fz d)) .mk) .mk := by
  unfold opz
  refine propext ⟨?_, fun h => ?_⟩
  · rintro ⟨z, ⟨d, ⟨j, e, e2⟩, rfl⟩, q⟩
    rw [e]
    show wD (valD kvs j) (fun d => k (.fz d)) .mk
    rw [← e2]
    exact q
  · obtain ⟨js, e, h⟩ := wD_ex h
    obtain ⟨d, e2, h⟩ := wD_ex h
    exact ⟨_, ⟨d, ⟨js, e, e2.symm⟩, rfl⟩, h⟩
theorem o_inDT {f : Bool → Bool} {kvs : List (List Key × D)} {ks : List D} {k l} : opz (dIn f (.tup ks) (.dit kvs)) k l = wD (D.keys ks) (fun js => k (.fz (.bl (f (valD kvs js).isSome)))) .mk := by
  unfold opz
  refine propext ⟨?_, fun h => ?_⟩
  · rintro ⟨z, ⟨b, ⟨o, ⟨j, e, e2⟩, rfl⟩, rfl⟩, q⟩
    rw [e]
    show k _
    rw [← e2]
    exact q
  · obtain ⟨js, e, h⟩ := wD_ex h
    exact ⟨_, ⟨_, ⟨_, ⟨js, e, rfl⟩, rfl⟩, rfl⟩, h⟩
end DL
namespace DL
open PySem PySem.Spec L2
theorem hasD_mt {kvs : List (List Key × D)} : hasD (some (.mt kvs)) = True := rfl
theorem small_mt {kvs : List (List Key × D)} : M.small (.mt kvs) = (kvs.length < sizeLine) := rfl
theorem p_tup {kvs : List (List Key × D)} {ks : List D} {d : D} : dput (.mt kvs) (.tup ks) d = (D.keys ks).map fun js => .mt (putD kvs js d) := rfl
theorem frz_mt {kvs : List (List Key × D)} : (M.mt kvs).frz = .dit kvs := rfl
end DL
namespace DL
open PySem PySem.Spec L2
def D.tyB : D → Option String
  | .non => some "NoneType"
  | .bl _ => some "bool"
  | .int _ => some "int"
  | .str _ => some "str"
  | .lst _ => some "list"
  | .tup _ => some "tuple"
  | _ => none
def isSub (t c : String) : Bool := t == c || (t == "bool" && c == "int")
def dIsi : List D → M → Prop
  | [d, .ty T], z => ∃ n, d.tyB = some n ∧ T ∈ ["bool", "int", "str", "list", "tuple", "dict"] ∧ z = .fz (.bl (isSub n T))
  | _, _ => False
theorem sub_kit {K : PySem.W.Frag} : ∀ n ∈ (["NoneType", "bool", "int", "str", "list", "tuple"] : List String), ∀ T ∈ (["bool", "int", "str", "list", "tuple", "dict"] : List String), PySem.W.kitOne K (.type n) (.type T) = some (isSub n T) := by
  intro n hn T hT
  simp only [List.mem_cons, List.not_mem_nil, or_false] at hn hT
  rcases hn with rfl | rfl | rfl | rfl | rfl | rfl <;> rcases hT with rfl | rfl | rfl | rfl | rfl | rfl <;> rfl
theorem tyB_mem {d : D} {n : String} (h : d.tyB = some n) : n ∈ (["NoneType", "bool", "int", "str", "list", "tuple"] : List String) := by
  cases d <;> cases h <;> simp
theorem Fz.tyX {K : PySem.W.Frag} {H : Hp} {v : V} {d : D} {n : String} (z : Fz K H v d) (h : d.tyB = some n) : TyX K H v (.type n) := by
  cases z with
  | non => cases h; exact .base .non
  | bl b => cases h; exact .base (.bl b)
  | int i => cases h; exact .base (.int i)
  | str x => cases h; exact .base (.str x)
  | lst e r => cases h; exact .base (.lst e)
  | tup e r => cases h; exact .base (.tup e)
  | _ => cases h
theorem cd_isi {K : PySem.W.Frag} : CallD K (rIsi K) dIsi := by
  intro F H xs ms z Q sb ov hz k
  cases ov with
  | nil => exact hz.elim
  | @cons x1 m1 B1 _ _ a t =>
    cases t with
    | nil => exact hz.elim
    | @cons x2 m2 B2 _ _ b t =>
      cases t with
      | cons _ _ => simp [dIsi] at hz
      | nil =>
        have z1 := a.view sb
        have z2 := b.view sb
        simp only [List.map_cons, List.map_nil] at hz
        generalize m1.frz = d1 at hz z1
        generalize m2.frz = d2 at hz z2
        cases z2 with
        | ty T =>
          obtain ⟨n, h1, h2, rfl⟩ := hz
          exact ⟨x1, .ty T, _, _, _, rfl, .ty T, z1.tyX h1, sub_kit n (tyB_mem h1) T h2, k _ F H [] Frm.refl sb (.fz (.bl _)) List.nodup_nil⟩
        | _ => exact hz.elim
theorem o_isi {d : D} {T : String} {n : String} {k l} (h : d.tyB = some n) : opz (dIsi [d, .ty T]) k l = (T ∈ ["bool", "int", "str", "list", "tuple", "dict"] ∧ k (.fz (.bl (isSub n T)))) := opz_and _ (by
  funext z
  refine propext ⟨?_, fun q => ⟨n, h, q⟩⟩
  rintro ⟨m, e, q⟩
  rw [h] at e
  cases e
  exact q)
theorem o_isiB {b : Bool} {T : String} {k l} : opz (dIsi [.bl b, .ty T]) k l = (T ∈ ["bool", "int", "str", "list", "tuple", "dict"] ∧ k (.fz (.bl (isSub "bool" T)))) := o_isi rfl
theorem o_isiI {b : Int} {T : String} {k l} : opz (dIsi [.int b, .ty T]) k l = (T ∈ ["bool", "int", "str", "list", "tuple", "dict"] ∧ k (.fz (.bl (isSub "int" T)))) := o_isi rfl
theorem o_isiS {b : Str} {T : String} {k l} : opz (dIsi [.str b, .ty T]) k l = (T ∈ ["bool", "int", "str", "list", "tuple", "dict"] ∧ k (.fz (.bl (isSub "str" T)))) := o_isi rfl
theorem o_isiN {T : String} {k l} : opz (dIsi [.non, .ty T]) k l = (T ∈ ["bool", "int", "str", "list", "tuple", "dict"] ∧ k (.fz (.bl (isSub "NoneType" T)))) := o_isi rfl
theorem o_isiL {b : List D} {T : String} {k l} : opz (dIsi [.lst b, .ty T]) k l = (T ∈ ["bool", "int", "str", "list", "tuple", "dict"] ∧ k (.fz (.bl (isSub "list" T)))) := o_isi rfl
theorem o_isiT {b : List D} {T : String} {k l} : opz (dIsi [.tup b, .ty T]) k l = (T ∈ ["bool", "int", "str", "list", "tuple", "dict"] ∧ k (.fz (.bl (isSub "tuple" T)))) := o_isi rfl
end DL
namespace DL
theorem is_NoneType_bool : isSub "NoneType" "bool" = false := by decide
theorem is_NoneType_int : isSub "NoneType" "int" = false := by decide
theorem is_NoneType_str : isSub "NoneType" "str" = false := by decide
theorem is_NoneType_list : isSub "NoneType" "list" = false := by decide
theorem is_NoneType_tuple : isSub "NoneType" "tuple" = false := by decide
theorem is_NoneType_dict : isSub "NoneType" "dict" = false := by decide
theorem is_bool_bool : isSub "bool" "bool" = true := by decide
theorem is_bool_int : isSub "bool" "int" = true := by decide
theorem is_bool_str : isSub "bool" "str" = false := by decide
theorem is_bool_list : isSub "bool" "list" = false := by decide
theorem is_bool_tuple : isSub "bool" "tuple" = false := by decide
theorem is_bool_dict : isSub "bool" "dict" = false := by decide
theorem is_int_bool : isSub "int" "bool" = false := by decide
theorem is_int_int : isSub "int" "int" = true := by decide
theorem is_int_str : isSub "int" "str" = false := by decide
theorem is_int_list : isSub "int" "list" = false := by decide
theorem is_int_tuple : isSub "int" "tuple" = false := by decide
theorem is_int_dict : isSub "int" "dict" = false := by decide
theorem is_str_bool : isSub "str" "bool" = false := by decide
theorem is_str_int : isSub "str" "int" = false := by decide
theorem is_str_str : isSub "str" "str" = true := by decide
theorem is_str_list : isSub "str" "list" = false := by decide
theorem is_str_tuple : isSub "str" "tuple" = false := by decide
theorem is_str_dict : isSub "str" "dict" = false := by decide
theorem is_list_bool : isSub "list" "bool" = false := by decide
theorem is_list_int : isSub "list" "int" = false := by decide
theorem is_list_str : isSub "list" "str" = false := by decide
theorem is_list_list : isSub "list" "list" = true := by decide
theorem is_list_tuple : isSub "list" "tuple" = false := by decide
theorem is_list_dict : isSub "list" "dict" = false := by decide
theorem is_tuple_bool : isSub "tuple" "bool" = false := by decide
theorem is_tuple_int : isSub "tuple" "int" = false := by decide
theorem is_tuple_str : isSub "tuple" "str" = false := by decide
theorem is_tuple_list : isSub "tuple" "list" = false := by decide
theorem is_tuple_tuple : isSub "tuple" "tuple" = true := by decide
theorem is_tuple_dict : isSub "tuple" "dict" = false := by decide
theorem im_bool : ("bool" ∈ (["bool", "int", "str", "list", "tuple", "dict"] : List String)) = True := eq_true (by decide)
theorem im_int : ("int" ∈ (["bool", "int", "str", "list", "tuple", "dict"] : List String)) = True := eq_true (by decide)
theorem im_str : ("str" ∈ (["bool", "int", "str", "list", "tuple", "dict"] : List String)) = True := eq_true (by decide)
theorem im_list : ("list" ∈ (["bool", "int", "str", "list", "tuple", "dict"] : List String)) = True := eq_true (by decide)
theorem im_tuple : ("tuple" ∈ (["bool", "int", "str", "list", "tuple", "dict"] : List String)) = True := eq_true (by decide)
theorem im_dict : ("dict" ∈ (["bool", "int", "str", "list", "tuple", "dict"] : List String)) = True := eq_true (by decide)
end DL
namespace DL
open PySem PySem.Spec L2
section
variable {Z : ZX} {X : Cx} {s : DSt} {i : Nat} {pos : Pos}
def asLs (x : D) (k : List D → Prop) (l : Lock k) : Prop := match x with
  | .lst es => k es
  | _ => False
theorem asLs_l {es : List D} {k l} : asLs (.lst es) k l = k es := rfl
def mIadd (i : Nat) (me : TD) : TSd := fun D0 s => hasL (slotM s i) ∧ me s fun w s1 => tv w s1 fun y s2 => wD (slotM s2 i) (fun m => asL m (fun ds => asLs y.frz (fun es => ds.length + es.length ≤ sizeLine ∧ D0.nx (setM s2 i (.ml (ds ++ es)))) .mk) .mk) .mk
theorem s_iadd {me : TD} {D0 : DEnds} : mIadd i me D0 s = (hasL (slotM s i) ∧ me s fun w s1 => tv w s1 fun y s2 => wD (slotM s2 i) (fun m => asL m (fun ds => asLs y.frz (fun es => ds.length + es.length ≤ sizeLine ∧ D0.nx (setM s2 i (.ml (ds ++ es)))) .mk) .mk) .mk) := rfl
end
end DL
namespace DL
open PySem PySem.Spec L2
theorem exm2_of {K : PySem.W.Frag} {A C : Addr} {r : Bool} (b : PySem.W.subIn K (.ref C) (.type "BaseException") = some true) (i : PySem.W.isClsIn K C = true) (t : PySem.W.typeIn K (.ref C) = some (.type "type")) (s : PySem.W.subIn K (.ref A) (.ref C) = some r) : PySem.W.exmOne K (.ref A) (.ref C) = some r := by
  unfold PySem.W.exmOne PySem.W.kitCls
  have hi : (PySem.W.clsIn K C).isSome = true := i
  simp [b, t, s, hi]
section
variable {Z : ZX} {X : Cx} {K : PySem.W.Frag} {F H F' H' : Hp} {A A' : List Addr} {σ : L2.St} {s : DSt} {pos : Pos}
def dcs (o : Option Bool) (m : DSt → Prop) (l : Lock m) (n : DSt → Prop) (r : Lock n) (s : DSt) : Prop := match o with
  | some true => m s
  | some false => n s
  | none => False
theorem dcs_t {m n : DSt → Prop} {l r} : dcs (some true) m l n r s = m s := rfl
theorem dcs_f {m n : DSt → Prop} {l r} : dcs (some false) m l n r s = n s := rfl
def dMany (K : PySem.W.Frag) (Dw : Value → Pay → DSt → Prop) (D0 : DEnds) : List (Value × TSd) → Value → Pay → DSt → Prop
  | [], cls, pl, s => Dw cls pl s
  | (c, ms) :: r, cls, pl, s => dcs (PySem.W.exmOne K cls c) (ms D0) .mk (dMany K Dw D0 r cls pl) .mk s
theorem s_many0 {Dw : Value → Pay → DSt → Prop} {D0 : DEnds} {cls : Value} {pl : Pay} : dMany K Dw D0 [] cls pl s = Dw cls pl s := rfl
theorem s_many1 {Dw : Value → Pay → DSt → Prop} {D0 : DEnds} {cls c : Value} {pl : Pay} {ms : TSd} {r : List (Value × TSd)} : dMany K Dw D0 ((c, ms) :: r) cls pl s = dcs (PySem.W.exmOne K cls c) (ms D0) .mk (dMany K Dw D0 r cls pl) .mk s := rfl
def mTry (K : PySem.W.Frag) (l : List (Value × TSd)) (mb : (Value → Pay → DSt → Prop) → TSd) (Dw : Value → Pay → DSt → Prop) : TSd := fun D0 s => mb (dMany K Dw D0 l) D0 s
theorem s_try {l : List (Value × TSd)} {mb : (Value → Pay → DSt → Prop) → TSd} {Dw : Value → Pay → DSt → Prop} {D0 : DEnds} : mTry K l mb Dw D0 s = mb (dMany K Dw D0 l) D0 s := rfl
inductive HdsL (Z : ZX) : List (Value × (Addr → Value → Option Addr → TS)) → List (Value × TSd) → Prop
  | nil : HdsL Z [] []
  | cons {c : Value} {ts : Addr → Value → Option Addr → TS} {ms : TSd} {l ml} (h : ∀ a cls d, LiftS (noxZ Z) (ts a cls d) ms) (r : HdsL Z l ml) : HdsL Z ((c, ts) :: l) ((c, ms) :: ml)
inductive DHds (Z : ZX) (X : Cx) : List ExceptHandler → List (Value × (Addr → Value → Option Addr → TS)) → List (Value × TSd) → Prop
  | nil : DHds Z X [] [] []
  | cons {x : Str} {c : Value} {ts : Addr → Value → Option Addr → TS} {b₀ : Stmt} {suite : List Stmt} {np pos' : Pos} {hds : List ExceptHandler} {ms : TSd} {l ml} (hc : Names X x c)
      (hsu : ∀ (a : Addr) (cls : Value) (d : Option Addr) (pn : List (Addr × Obj)), DSs (noxZ Z) (X.suite a pn) (b₀ :: suite) (ts a cls d) ms) (r : DHds Z X hds l ml) :
      DHds Z X (.ExceptHandler (some (.Name x np)) none (b₀ :: suite) pos' :: hds) ((c, ts) :: l) ((c, ms) :: ml)
theorem DHds.ok {hds l ml} (h : DHds Z X hds l ml) : HdsOk X hds l := by
  induction h with
  | nil => exact .nil
  | cons hc hsu r ih => exact .cons hc (fun a oe cls d pn _ _ => (hsu a cls d _).ps) ih
theorem DHds.lf {hds l ml} (h : DHds Z X hds l ml) : HdsL Z l ml := by
  induction h with
  | nil => exact .nil
  | cons hc hsu r ih => exact .cons (fun a cls d => (hsu a cls d []).lf) ih
theorem dcs_ex {o : Option Bool} {m n : DSt → Prop} {l r} (h : dcs o m l n r s) : ∃ b, o = some b ∧ (b = true → m s) ∧ (b = false → n s) := by
  cases o with
  | none => exact h.elim
  | some b =>
    cases b with
    | true => exact ⟨true, rfl, fun _ => h, fun q => (by cases q)⟩
    | false => exact ⟨false, rfl, fun q => (by cases q), fun _ => h⟩
theorem HdsL.im {l ml} (hl : HdsL Z l ml) {D : Ends} {Dd : DEnds} {cls : Value} {d : Option Addr} {pl : Pay} (R : ExImp Z F H A) (e : EImp Z.K Dd D F H A) {σ' : L2.St} {s' : DSt} {F' H' : Hp} {A' : List Addr} (g : Frm F H A F' H' A') (sb : Sub F' H') (ow : OwS Z.K F' H' σ' s' A') (nd : A'.Nodup) (xp : XPay Z.K F' H' d pl) (q : dMany Z.K Z.D Dd ml cls pl s') : wMany Z.K Z.W D l cls d σ' H' := by
  induction hl with
  | nil => exact R.im cls d pl σ' s' F' H' A' g sb ow nd xp q
  | cons hs r ih =>
    obtain ⟨b, hb, hy, hn⟩ := dcs_ex q
    refine ⟨b, hb, fun hbt a ha => ?_, fun hbf => ih (hn hbf)⟩
    exact hs a cls d σ' H' F' A' s' D Dd ⟨sb, ow, nd, nox_ex (R.tb.frm g)⟩ (hy hbt) (e.step g)
theorem takes_look {W : WX} {pn : List (Addr × Obj)} (hs : X.stack = X.env :: X.outer) (hf : X.env.frame = some X.env.locals) : Takes (X.tr pn (fun e s' => wpAny (model X.prog X.w) X.A (noteFrame e X.env) (fun _ s₂ => wpAny (model X.prog X.w) X.A (setFlight e none) (fun _ _ => True) (fun _ _ => True) s₂) (fun _ _ => True) s')) W := by
  rintro u s' ⟨a, B, sI, pins', σ', H', cls, d, rfl, J', nb, up, sky, na, os, ag, w⟩
  have ok := J'.ok.ofTry
  have hfr : X.A.frames = some (X.env :: X.outer) := by rw [ok.frames, hs]
  have sky' : Sky B (X.env :: X.outer) a (Zc cls d) X.env.locals s'.heap := by rw [← hs]; exact sky
  show wpAny (model X.prog X.w) X.A (noteFrame (.ref a) X.env) _ _ _
  refine Sky.land Zc.steady hfr hf sky' fun h3 fl3 up3 => ?_
  trivial
end
end DL
namespace DL
open PySem PySem.Spec L2
def stB (b : List Stmt) (i : Nat) : Stmt := b.getD i (.Pass ⟨0, 0, 0, 0⟩)
def tryB : Stmt → List Stmt
  | .Try b _ _ _ _ => b
  | _ => []
def hdB : Stmt → List Stmt
  | .Try _ (.ExceptHandler _ _ b _ :: _) _ _ _ => b
  | _ => []
section
variable {Z : ZX} {X : Cx} {K : PySem.W.Frag} {F H F' H' : Hp} {A A' : List Addr} {σ : L2.St} {s : DSt} {pos : Pos}
def payD (d : Option Addr) (pl : Pay) : Prop := d.isSome = pl.isSome
theorem XPay.payD {d : Option Addr} {pl : Pay} (h : XPay K F H d pl) : payD d pl := by
  cases d with
  | none =>
    cases pl with
    | none => rfl
    | some _ => exact h.elim
  | some a =>
    cases pl with
    | none => exact h.elim
    | some _ => rfl
def excD (a : Addr) (d : Option Addr) (pl : Pay) : D := match d, pl with
  | some d, some fs => .exc a d fs
  | _, _ => .ref a
theorem XPay.fz {a : Addr} {d : Option Addr} {pl : Pay} (sb : Sub F H) (h : XPay K F H d pl) : Fz K F (.ref a) (excD a d pl) := by
  cases d with
  | none => exact .ref a
  | some d =>
    cases pl with
    | none => exact .ref a
    | some fs =>
      obtain ⟨vs, h1, h2⟩ := h
      exact .exc h1 h2
def endR (D0 : DEnds) : DEnds := ⟨fun _ => False, D0.rt, fun _ => False, fun _ => False⟩
theorem s_endR {D0 : DEnds} {m : M} : (endR D0).rt m s = D0.rt m s := rfl
def dAsK (i : Nat) (pl : Pay) (k : Addr → Option Addr → DSt → Prop) (l : Lock k) (s : DSt) : Prop := ∀ (a : Addr) (d : Option Addr), payD d pl → gNm i (.fz (excD a d pl)) s fun s2 => k a d s2
theorem s_asN {i : Nat} {k l} : dAsK i none k l s = ∀ a : Addr, gNm i (.fz (.ref a)) s fun s2 => k a none s2 := by
  refine propext ⟨fun h a => h a none rfl, fun h a d hd => ?_⟩
  cases d with
  | none => exact h a
  | some d => cases hd
theorem s_asX {i : Nat} {fs : List (Str × D)} {k l} : dAsK i (some fs) k l s = ∀ a d : Addr, gNm i (.fz (.exc a d fs)) s fun s2 => k a (some d) s2 := by
  refine propext ⟨fun h a d => h a (some d) rfl, fun h a d hd => ?_⟩
  cases d with
  | none => cases hd
  | some d => exact h a d
def dAs (K : PySem.W.Frag) (c : Value) (i : Nat) (ms : Value → Pay → Addr → Option Addr → TSd) (Dw : Value → Pay → DSt → Prop) (D0 : DEnds) : Value → Pay → DSt → Prop := fun cls pl s =>
  dcs (PySem.W.exmOne K cls c) (fun s => dAsK i pl (fun a d s2 => ms cls pl a d (endR D0) s2) .mk s) .mk (Dw cls pl) .mk s
theorem s_as {c : Value} {i : Nat} {ms : Value → Pay → Addr → Option Addr → TSd} {Dw : Value → Pay → DSt → Prop} {D0 : DEnds} {cls : Value} {pl : Pay} : dAs K c i ms Dw D0 cls pl s = dcs (PySem.W.exmOne K cls c) (fun s => dAsK i pl (fun a d s2 => ms cls pl a d (endR D0) s2) .mk s) .mk (Dw cls pl) .mk s := rfl
def mTryA (K : PySem.W.Frag) (c : Value) (i : Nat) (ms : Value → Pay → Addr → Option Addr → TSd) (mb : (Value → Pay → DSt → Prop) → TSd) (Dw : Value → Pay → DSt → Prop) : TSd := fun D0 s => mb (dAs K c i ms Dw D0) D0 s
theorem s_tryA {c : Value} {i : Nat} {ms : Value → Pay → Addr → Option Addr → TSd} {mb : (Value → Pay → DSt → Prop) → TSd} {Dw : Value → Pay → DSt → Prop} {D0 : DEnds} : mTryA K c i ms mb Dw D0 s = mb (dAs K c i ms Dw D0) D0 s := rfl
theorem LiftS.tryA {c : Value} {i : Nat} {ts : Addr → Value → Option Addr → TS} {ms : Value → Pay → Addr → Option Addr → TSd} {tb : WX → TS} {mb : (Value → Pay → DSt → Prop) → TSd}
    (hs : ∀ a cls d pl, payD d pl → LiftS (noxZ Z) (ts a cls d) (ms cls pl a d)) (lb : ∀ (W : WX) (Dw : Value → Pay → DSt → Prop), LiftS ⟨Z.K, W, Dw, Z.T⟩ (tb W) (mb Dw)) :
    LiftS Z (fun D σ H => tb (wAs Z.K c i ts Z.W D) D σ H) (mTryA Z.K c i ms mb Z.D) := by
  intro σ H F A s D Dd R h e
  refine lb (wAs Z.K c i ts Z.W D) (dAs Z.K c i ms Z.D Dd) σ H F A s D Dd ⟨R.sub, R.own, R.nd, R.ex.tb, ?_⟩ h e
  intro cls d pl σ' s' F' H' A' g sb ow nd xp q
  have q' : dAs Z.K c i ms Z.D Dd cls pl s' := q
  unfold dAs at q'
  obtain ⟨b, hb, hy, hn⟩ := dcs_ex q'
  refine ⟨b, hb, fun hbt a ha => ?_, fun hbf => R.ex.im cls d pl σ' s' F' H' A' g sb ow nd xp (hn hbf)⟩
  refine LiftG.name (Z := Z) σ' H' F' [] A' s' (.ref a) (.fz (excD a d pl)) _ _ sb (.fz (xp.fz sb)) ow (by simpa using nd) (hy hbt a d xp.payD) fun σ2 s2 F2 H2 A2 q2 f2 sb2 ow2 nd2 => ?_
  have f2' : Frm F' H' A' F2 H2 A2 := by simpa using f2
  have g2 := g.trans0 f2'
  refine hs a cls d pl xp.payD σ2 H2 F2 A2 s2 _ (endR Dd) ⟨sb2, ow2, nd2, nox_ex (R.ex.tb.frm g2)⟩ q2 ?_
  have e2 := e.step g2
  exact ⟨fun _ _ _ _ _ _ _ _ _ z => z.elim, fun _ _ _ _ _ _ _ _ _ z => z.elim, fun _ _ _ _ _ _ _ _ _ z => z.elim, e2.rt⟩
theorem ds_tryA {body suite : List Stmt} {b₀ : Stmt} {x n : Str} {np pos' : Pos} {c : Value} {i : Nat} {ts : Addr → Value → Option Addr → TS} {ms : Value → Pay → Addr → Option Addr → TSd} {tb : WX → TS} {mb : (Value → Pay → DSt → Prop) → TSd}
    (hs : X.stack = X.env :: X.outer) (hf : X.env.frame = some X.env.locals) (hK : X.K = Z.K) (hN : X.N.Nodup) (hi : X.N[i]? = some n) (hln : X.env.kindOf n = some .local) (hc : Names X x c) (tk : Takes X Z.W)
    (hb : ∀ (W : WX) (Dw : Value → Pay → DSt → Prop) (pn : List (Addr × Obj)) (xe : Value → Shared → Prop), Takes (X.tr pn xe) W → PassesOwn (model X.prog X.w) X.A X.env xe → DSs ⟨Z.K, W, Dw, Z.T⟩ (X.tr pn xe) body (tb W) (mb Dw))
    (hsu : ∀ (a : Addr) (oe : Obj) (cls : Value) (d : Option Addr) (pl : Pay) (pn : List (Addr × Obj)), payD d pl → Zc cls d oe → (∃ vs, oe.data = .fields vs) → DSs (noxZ Z) (X.suite a ((a, oe) :: pn)) (b₀ :: suite) (ts a cls d) (ms cls pl a d)) :
    DS Z X (.Try body [.ExceptHandler (some (.Name x np)) (some n) (b₀ :: suite) pos'] [] [] pos) (fun D σ H => tb (wAs Z.K c i ts Z.W D) D σ H) (mTryA Z.K c i ms mb Z.D) := by
  have h1 : ∀ (a : Addr) (oe : Obj) (cls : Value) (d : Option Addr) (pn : List (Addr × Obj)), Zc cls d oe → (∃ vs, oe.data = .fields vs) → PSs (X.suite a ((a, oe) :: pn)) (b₀ :: suite) (ts a cls d) := by
    intro a oe cls d pn hz hd
    cases d with
    | none => exact (hsu a oe cls none none pn rfl hz hd).ps
    | some d => exact (hsu a oe cls (some d) (some []) pn rfl hz hd).ps
  have h2 : ∀ (a : Addr) (cls : Value) (d : Option Addr) (pl : Pay), payD d pl → LiftS (noxZ Z) (ts a cls d) (ms cls pl a d) := fun a cls d pl hp =>
    (hsu a ⟨cls, d, .fields #[], #[]⟩ cls d pl [] hp ⟨rfl, rfl⟩ ⟨_, rfl⟩).lf
  exact ⟨by rw [← hK]; exact ps_try_as hs hf hN hi hln hc tk (fun W pn xe tk' po => (hb W (fun _ _ _ => False) pn xe tk' po).ps) h1, .tryA h2 fun W Dw => (hb W Dw [] _ (takes_look hs hf) PassesOwn.looking).lf⟩
def clsV (K : PySem.W.Frag) : D → Option Value
  | .ref C => some (.ref C)
  | .ty T => some (.type T)
  | _ => none
def dIsE (K : PySem.W.Frag) (cls : Value) (pl : Pay) (a : Addr) (d : Option Addr) : List D → M → Prop := fun ds z => ∃ D c cv b, ds = [excD a d pl, c] ∧ cls = .ref D ∧ L2.ExcC K D ∧ clsV K c = some cv ∧ PySem.W.kitOne K (.ref D) cv = some b ∧ z = .fz (.bl b)
def rIsE2 (K : PySem.W.Frag) (cls : Value) (d : Option Addr) (a : Addr) : List V → Hp → VK → Prop := fun xs H Q => ∃ (D : Addr) (c : V) (cv : Value) (b : Bool), cls = .ref D ∧ L2.ExcC K D ∧ xs = [.ref a, c] ∧ (∀ u, RelV c u → u = cv) ∧ PySem.W.kitOne K (.ref D) cv = some b ∧ (∀ dd, d = some dd → ∃ vs, H dd = some (.xd vs)) ∧ Q (.bl b) H
theorem call_isE2 {a : Addr} {cls : Value} {d : Option Addr} {oe : Obj} {pn : List (Addr × Obj)} (hz : Zc cls d oe) (hf : ∃ vs, oe.data = .fields vs) : CallR (X.suite a ((a, oe) :: pn)) (.builtin "isinstance") (rIsE2 X.K cls d a) := by
  intro pins s σ H xs us Q I r h
  obtain ⟨D, c, cv, b, rfl, C, rfl, hcv, e, hd, q⟩ := h
  cases r with
  | cons rx rr =>
    cases rr with
    | cons rt rr =>
      cases rr
      cases rx
      have ec := hcv _ rt
      subst ec
      obtain ⟨hget, _⟩ := I.pin (a, oe) (List.mem_append.mpr (.inl List.mem_cons_self))
      obtain ⟨vs, hv⟩ := hf
      obtain ⟨od, J⟩ : ∃ od, PySem.W.InstAt s.heap a oe D od := by
        obtain ⟨oc, odd, oda, osl⟩ := oe
        obtain ⟨h1, h2⟩ := hz
        dsimp only at h1 h2 hv
        subst h1 h2 hv
        cases odd with
        | none => exact ⟨none, hget, rfl, rfl, trivial⟩
        | some dd =>
          obtain ⟨ws, hw⟩ := hd dd rfl
          obtain ⟨mA, ⟨o, _, _, ho, _⟩, _⟩ := (show ObjOk X.prog X.w H s.heap dd (.xd ws) from I.hok dd _ hw)
          exact ⟨some o, hget, rfl, rfl, ho⟩
      obtain ⟨cdD, hcD, _⟩ := PySem.W.any_some C.hd
      exact PySem.W.kia_one (PySem.W.kitx_exc (by rw [hcD]; rfl) C.hg C.hk C.hs C.ha C.hn C.ht C.hm) I.kIn J e (fun z => nomatch z) fun tk => ⟨.bl b, H, I.kept (t' := tk) fun _ _ z => z, rfl, q⟩
theorem excD_fz {a : Addr} {d : Option Addr} {pl : Pay} {x : V} (hp : payD d pl) (z : Fz K H x (excD a d pl)) : x = .ref a ∧ ∀ dd, d = some dd → ∃ vs, H dd = some (.xd vs) := by
  cases d with
  | none => cases z; exact ⟨rfl, fun _ h => by cases h⟩
  | some d =>
    cases pl with
    | none => cases hp
    | some fs =>
      cases z with
      | exc h r => exact ⟨rfl, fun dd e => by cases e; exact ⟨_, h⟩⟩
theorem cd_isE {a : Addr} {cls : Value} {d : Option Addr} {pl : Pay} (hp : payD d pl) : CallD K (rIsE2 K cls d a) (dIsE K cls pl a d) := by
  intro F H xs ms z Q sb ov hz k
  obtain ⟨D, c, cv, b, e, rfl, C, hcv, hb, rfl⟩ := hz
  cases ov with
  | nil => simp at e
  | @cons x1 m1 B1 _ _ o1 t =>
    cases t with
    | nil => simp at e
    | @cons x2 m2 B2 _ _ o2 t =>
      cases t with
      | cons _ _ => simp at e
      | nil =>
        have z1 := o1.view sb
        have z2 := o2.view sb
        simp only [List.map_cons, List.map_nil, List.cons.injEq, and_true] at e
        generalize m1.frz = d1 at e z1
        generalize m2.frz = d2 at e z2
        obtain ⟨rfl, rfl⟩ := e
        obtain ⟨rfl, hx⟩ := excD_fz hp z1
        refine ⟨D, x2, cv, b, rfl, C, rfl, ?_, hb, hx, k _ _ _ [] Frm.refl sb (.fz (.bl b)) List.nodup_nil⟩
        intro u ru
        cases z2 with
        | ref C => cases hcv; exact ru
        | ty n => cases hcv; exact ru
        | _ => cases hcv
theorem de_isE {a : Addr} {cls : Value} {d : Option Addr} {pl : Pay} {oe : Obj} {pn : List (Addr × Obj)} {p : Pos} {e : Expr} {es : List Expr} {t : TA} {m : TDs} (hK : X.K = Z.K) (hp : payD d pl) (hz : Zc cls d oe) (hf : ∃ vs, oe.data = .fields vs) (hg : Gl (X.suite a ((a, oe) :: pn)) "isinstance") (hm : X.mg "isinstance" = none)
    (ha : DA (noxZ Z) (X.suite a ((a, oe) :: pn)) (e :: es) t m) (he : starEach (e :: es) X.env = (false, eval e X.env) :: starEach es X.env := by rfl) (hpl : (backTo pos (starEach es X.env)).any (·.1) = false := by rfl) :
    DE (noxZ Z) (X.suite a ((a, oe) :: pn)) (.Call (.Name "isinstance" p) (e :: es) [] pos) (tCB (rIsE2 Z.K cls d a) t) (mCB (dIsE Z.K cls pl a d) m) :=
  de_callB (by rw [← hK]; exact call_isE2 hz hf) (cd_isE hp) hg hm rfl ha (by decide) (by decide) he hpl
theorem de_gref {x : Str} {C : Addr} (hm : X.mg x = some (.ref C)) (hg : Gl X x := by rfl) (hd : (x == ("__debug__" : Str)) = false := by decide) : DE Z X (.Name x pos) (tC (.ref C)) (mC (.ref C)) :=
  de_glob hg hm rfl (fun _ => .ref C) hd
theorem o_isE {D C a : Addr} {b : Bool} {k l} (x : L2.ExcC K D) (h : PySem.W.kitOne K (.ref D) (.ref C) = some b) : opz (dIsE K (.ref D) none a none [.ref a, .ref C]) k l = k (.fz (.bl b)) := opz_one _ (by
  funext z
  refine propext ⟨?_, fun e => ⟨D, .ref C, (.ref C), b, rfl, rfl, x, rfl, h, e⟩⟩
  rintro ⟨D', c, cv, b', e1, e2, -, e3, e4, rfl⟩
  cases e1
  cases e2
  cases e3
  rw [h] at e4
  cases e4
  rfl)
theorem o_isX {D C a d : Addr} {fs : List (Str × DL.D)} {b : Bool} {k l} (x : L2.ExcC K D) (h : PySem.W.kitOne K (.ref D) (.ref C) = some b) : opz (dIsE K (.ref D) (some fs) a (some d) [.exc a d fs, .ref C]) k l = k (.fz (.bl b)) := opz_one _ (by
  funext z
  refine propext ⟨?_, fun e => ⟨D, .ref C, (.ref C), b, rfl, rfl, x, rfl, h, e⟩⟩
  rintro ⟨D', c, cv, b', e1, e2, -, e3, e4, rfl⟩
  cases e1
  cases e2
  cases e3
  rw [h] at e4
  cases e4
  rfl)
def xfW (cls : Value) (a : Addr) (d : Option Addr) (C : Addr) (n : Str) (o : Option D) (k : D → Prop) (l : Lock k) : Prop := match o with
  | some (.exc a' dd fs) => (a' = a ∧ cls = .ref C ∧ d = some dd) ∧ wD (fs.lookup n) k l
  | _ => False
theorem s_xf {C a d : Addr} {n : Str} {fs : List (Str × D)} {k l} : xfW (.ref C) a (some d) C n (some (.exc a d fs)) k l = wD (fs.lookup n) k l := by
  show ((_ ∧ _ ∧ _) ∧ _) = _
  simp
def mXf (cls : Value) (a : Addr) (d : Option Addr) (C : Addr) (n : Str) (m : TD) : TD := fun s Q => m s fun w s1 => xfW cls a d C n (res s1 w) (fun x => Q (.val (.fz x)) s1) .mk
theorem s_mXf {cls : Value} {a : Addr} {d : Option Addr} {C : Addr} {n : Str} {m : TD} {Q} : mXf cls a d C n m s Q = m s fun w s1 => xfW cls a d C n (res s1 w) (fun x => Q (.val (.fz x)) s1) .mk := rfl
theorem kit1_of {A C : Addr} {r : Bool} (i : PySem.W.isClsIn K C = true) (t : PySem.W.typeIn K (.ref C) = some (.type "type")) (s : PySem.W.subIn K (.ref A) (.ref C) = some r) (sA : PySem.W.subIn K (.ref A) (.ref A) = some true) : PySem.W.kitOne K (.ref A) (.ref C) = some r := by
  have hi : (PySem.W.clsIn K C).isSome = true := i
  unfold PySem.W.kitOne PySem.W.kitCls
  by_cases e : A = C
  · subst e
    rw [s] at sA
    cases sA
    rw [if_pos (by rw [beq_iff_eq])]
  · rw [if_neg (fun q => e (Value.ref.inj (beq_iff_eq.mp q)))]
    simp [t, s, hi]
end
end DL
namespace DL
open PySem PySem.Spec L2
def LenT (t : TA) (n : Nat) : Prop := ∀ σ H Q, t σ H Q = t σ H fun vs H1 => vs.length = n ∧ Q vs H1
theorem LenT.nil : LenT tNil 0 := fun σ H Q => by
  show Q [] H = (([] : List V).length = 0 ∧ Q [] H)
  simp
theorem LenT.cons {t : TE} {u : TA} {n : Nat} (h : LenT u n) : LenT (tCons t u) (n + 1) := fun σ H Q => by
  show (t σ H fun v H1 => u σ H1 fun vs H2 => Q (v :: vs) H2) = (t σ H fun v H1 => u σ H1 fun vs H2 => (v :: vs).length = n + 1 ∧ Q (v :: vs) H2)
  congr 1
  funext v H1
  rw [h]
  congr 1
  funext vs H2
  simp
def AppT (t tk tc : TA) : Prop := ∀ σ H Q, (t σ H fun vs H1 => tk σ H1 fun zs H2 => Q (vs ++ zs) H2) = tc σ H Q
theorem AppT.nil {tk : TA} : AppT tNil tk tk := fun _ _ _ => rfl
theorem AppT.cons {t : TE} {u tk tc : TA} (h : AppT u tk tc) : AppT (tCons t u) tk (tCons t tc) := fun σ H Q => by
  show (t σ H fun v H1 => u σ H1 fun vs H2 => tk σ H2 fun zs H3 => Q ((v :: vs) ++ zs) H3) = (t σ H fun v H1 => tc σ H1 fun zs H2 => Q (v :: zs) H2)
  congr 1
  funext v H1
  exact h σ H1 fun zs H2 => Q (v :: zs) H2
end DL
namespace DL
open PySem PySem.Spec L2
end DL
namespace DL
open PySem PySem.Spec L2 PyProof.Rows PySem.Calls PyProof.V
def pairsT (ds : List (List Key × D)) : List D := ds.map fun p => .tup [.tup (p.1.map keyD), p.2]
def mItM (m : M) (k1 : List D → Prop) (k2 : List (List Key × D) → Prop) : Prop := match m with
  | .mt ds => k2 ds
  | .fz (.dil ds) => k1 (pairsT ds)
  | _ => False
def itZ (w : W) (s : DSt) (k : List D → DSt → Prop) (l : Lock k) : Prop := match w with
  | .val m => mItM m (fun ds => k ds s) fun ds => k (pairsT ds) s
  | .slot i => wD (slotM s i) (fun m => mItM m (fun ds => k ds s) fun ds => k (pairsT ds) (setM s i (.fz (.dil ds)))) .mk
  | .fld _ _ _ => False
theorem iz_valT {ds : List (List Key × D)} {s k l} : itZ (.val (.mt ds)) s k l = k (pairsT ds) s := rfl
theorem iz_valL {ds : List (List Key × D)} {s k l} : itZ (.val (.fz (.dil ds))) s k l = k (pairsT ds) s := rfl
theorem iz_slot {i : Nat} {s : DSt} {k l} : itZ (.slot i) s k l = wD (slotM s i) (fun m => mItM m (fun ds => k ds s) fun ds => k (pairsT ds) (setM s i (.fz (.dil ds)))) .mk := rfl
theorem iz_mT {ds : List (List Key × D)} {k1 k2} : mItM (.mt ds) k1 k2 = k2 ds := rfl
theorem iz_mL {ds : List (List Key × D)} {k1 k2} : mItM (.fz (.dil ds)) k1 k2 = k1 (pairsT ds) := rfl
def mItemsT (m : TD) : TId := fun s R => m s fun w s1 => itZ w s1 R .mk
theorem s_itemsT {m : TD} {s : DSt} {R} : mItemsT m s R = m s fun w s1 => itZ w s1 R .mk := rfl
section
variable {Z : ZX} {X : Cx} {K : PySem.W.Frag} {F H : Hp} {A : List Addr} {σ : L2.St}
theorem Fzt.getD : ∀ {kvs : List (List Key × V)} {ds : List (List Key × D)}, Fzt K F kvs ds → ∀ {i : Nat} {p : List Key × D}, ds[i]? = some p → ∃ v, kvs[i]? = some (p.1, v) ∧ Fz K F v p.2
  | _, _, .nil, i, p, h => by simp at h
  | _, _, .cons z _, 0, p, h => by simp at h; subst h; exact ⟨_, rfl, z⟩
  | _, _, .cons _ r, i + 1, p, h => by simpa using Fzt.getD r (by simpa using h)
end
end DL
namespace DL
open PySem PySem.Spec L2 PyProof.Rows PySem.Calls PyProof.V
section
variable {Z : ZX} {X : Cx} {K : PySem.W.Frag} {F H : Hp} {A : List Addr} {σ : L2.St} {s : DSt} {pos : Pos}
def mkT1 : D → D → Option (List (List Key × D))
  | .tup ks, d => (D.keys ks).map fun js => [(js, d)]
  | _, _ => none
def mkT : List M → Option (List (List Key × D))
  | [k, v] => mkT1 k.frz v.frz
  | _ => none
def mDispT (q : List (TD × TD)) : TD := fun s Q => mFlat q s fun ws s1 => tvs ws s1 fun ms s2 => wD (mkT ms) (fun kvs => Q (.val (.mt kvs)) s2) .mk
theorem s_dispT {q : List (TD × TD)} {Q} : mDispT q s Q = mFlat q s fun ws s1 => tvs ws s1 fun ms s2 => wD (mkT ms) (fun kvs => Q (.val (.mt kvs)) s2) .mk := rfl
theorem z_mkT {d : D} {ks : List D} : mkT [.fz (.tup ks), .fz d] = (D.keys ks).map fun js => [(js, d)] := rfl
def mVarKM (m : M) (k1 : D → Prop) (k2 : List (List Key × D) → Prop) : Prop := match m with
  | .mt ds => k2 ds
  | .fz (.dil ds) => k1 (.dil ds)
  | _ => False
def mVarK (i : Nat) : TD := fun s Q => wD (slotM s i) (fun m => mVarKM m (fun d => Q (.slot i) s) fun ds => Q (.slot i) (setM s i (.fz (.dil ds)))) .mk
theorem s_varK {i : Nat} {Q} : mVarK i s Q = wD (slotM s i) (fun m => mVarKM m (fun d => Q (.slot i) s) fun ds => Q (.slot i) (setM s i (.fz (.dil ds)))) .mk := rfl
theorem k_mT {ds : List (List Key × D)} {k1 k2} : mVarKM (.mt ds) k1 k2 = k2 ds := rfl
theorem k_mL {ds : List (List Key × D)} {k1 k2} : mVarKM (.fz (.dil ds)) k1 k2 = k1 (.dil ds) := rfl
end
end DL
namespace DL
open PySem PySem.Spec L2
def strL : List D → Option (List Str)
  | [] => some []
  | .str b :: r => (strL r).map fun bs => b :: bs
  | _ :: _ => none
def dJoin (a : Str) : D → M → Prop
  | .lst ds, z => ∃ ys, strL ds = some ys ∧ (ys.map (·.length)).sum + ys.length * a.length ≤ 16777216 ∧ z = .fz (.str (Txt.join a ys))
  | _, _ => False
section
variable {Z : ZX} {X : Cx} {K : PySem.W.Frag} {pos : Pos}
theorem o_join {a : Str} {ds : List D} {k l} : opz (dJoin a (.lst ds)) k l = wD (strL ds) (fun ys => (ys.map (·.length)).sum + ys.length * a.length ≤ 16777216 ∧ k (.fz (.str (Txt.join a ys)))) .mk := by
  rw [← wD_eq]
  refine propext ⟨?_, ?_⟩
  · rintro ⟨z, ⟨ys, h1, h2, rfl⟩, q⟩
    exact ⟨ys, h1, h2, q⟩
  · rintro ⟨ys, h1, h2, q⟩
    exact ⟨_, ⟨ys, h1, h2, rfl⟩, q⟩
end
end DL
namespace DL
open PySem PySem.Spec L2 PyProof.Rows
def sxOf (P : Program) (w : World) (K : PySem.W.Frag) (mg : Str → Option Value) (base : Heap) (N : List Str) (env : Env) (A : Around) (outer : List Env) (s : Shared) (H : Hp) (xe : Value → Shared → Prop) : Cx where
  prog := P
  w := w
  K := K
  mg := mg
  base := base
  A := A.deeper env
  N := N
  s_0 := s
  H_0 := H
  env := env
  outer := outer
  stack := env :: outer
  ex := []
  calm := true
  fn := fun _ => false
  pn := []
  xe := xe
section
variable {P : Program} {w : World} {M : Model} {A : Around} {E : Value → Shared → Prop} {K : PySem.W.Frag}
theorem mw_with {i : String} {pos : Pos} {u x : Addr} {env : Env} {e : Expr} {es : List Expr} {s : Shared} {Q : Value → Shared → Prop}
    (run : wpAny M A (PySem.spliced (backTo pos (starEach (e :: es) env))) (fun vs s1 => PySem.W.KxsAt i u x s1.heap ∧ wpAny M A (call (.ref u) vs) Q E s1) E s)
    (he : starEach (e :: es) env = (false, eval e env) :: starEach es env := by rfl) (hpl : (backTo pos (starEach es env)).any (·.1) = false := by rfl) : wpAny M A (callWith pos (.ref u) [] (backTo pos (starEach (e :: es) env)) []) Q E s := by
  rw [he] at run
  rw [he]
  have pl : ((backTo pos ((false, eval e env) :: starEach es env)).any (·.1)) = false := by
    show (false || (backTo pos (starEach es env)).any (·.1)) = false
    rw [hpl]
    rfl
  exact PySem.W.kxs_callWith (i := i) (x := x) pl (Calls.evalArgs_plain run)
theorem mw_run {h : Heap} {g : Array GenState} {d : Drawn} {t : Nat} {os : OsState} {nm q : Str} {C N u e t0 : Addr} {bs bm : List Value} {hdct : Bool} {sn : List Str} {sub : List Value} {ab : Bool} {col : Option Bool} {dd : Option Addr} {k0 k1 k2 k3 k5 : Option Value} {xs : List Value} {Q : Value → Shared → Prop}
    (hC : h.get? C = some (excClassObj nm q C N bs bm hdct sn sub ab col dd k0 k1 k2 k3 k5 "ValueError.__new__")) (he : h.get? e = some (HandSPX.excO C t0)) (hu : h.get? u = some (PySem.W.kxs_mw "ValueError.__init__" e)) (hx : xs.length ≤ sizeLine)
    (hq : ∀ h' t1, (∀ b o, b ≠ e → h.get? b = some o → h'.get? b = some o) → h'.get? e = some (HandSPX.excO C t1) → Q .none ⟨h', g, d, t, os⟩) : wpAny (model P w) A (call (.ref u) xs) Q E ⟨h, g, d, t, os⟩ := by
  have FB := F.excBase_ValueError
  refine wpAny_call (codeAny_of_tree ?_)
  show wpAny _ A.in1 (callAny (.ref u) ⟨xs, []⟩) _ _ _
  simp only [callAny]
  refine wpAny_bind (wpAny_load hu ?_)
  have b1 : (Value.type "method-wrapper" == Value.type "method" || Value.type "method-wrapper" == Value.type "builtin_function_or_method" || Value.type "method-wrapper" == Value.type "method-wrapper") = true := by decide
  simp only [PySem.W.kxs_mw, b1, if_true]
  refine PySem.W.KFB.if_so (by decide) ?_
  refine wpAny_bind (PySem.W.check_bound_init FB.toExcCallFacts hC he rfl ?_)
  refine wpAny_bind (wpAny_pure (wpAny_pure ?_))
  refine ⟨plainId_quiet FB.init.plain _, codeAny_builtin FB.initEntry ?_⟩
  exact PySem.W.exc_init_tree (cls := .ref C) (t0 := t0) (dv := none) (c2 := .none) (c3 := .none) (b4 := .bool false) he hx fun h' k e' t' => hq h' _ k e'
end
end DL
namespace DL
open PySem PySem.Spec L2 PyProof.Rows
section
variable {P : Program} {w : World} {K : PySem.W.Frag} {mg : Str → Option Value} {base : Heap}
def spSup (txt : Str) (C : Addr) (f : Str) : Sp := fun vs H Q _ => ∃ (a : Addr) (i : Int), vs = [.ref a, .int i] ∧ i.natAbs.log2 < 1920 ∧ (txt ++ PySem.Str.ofString (toString i)).length ≤ sizeLine ∧ H a = some (exo a C none) ∧
  ∀ d, H d = none → d ≠ a → Q .non (upd (upd H d (exd d [(f, .int i)])) a (exo a C (some d)))
abbrev supScope (y : Str) (m : List (Str × Const)) : Scope := { kind := .function, names := [("self", .local), (y, .local), ("__class__", .free), ("super", .globalImplicit)], isGenerator := false, isCoroutine := false, more := m }
abbrev supCall (txt y : Str) (j : Nat) (p0 p1 p2 p3 p4 p5 p6 p7 : Pos) : Expr := .Call (.Attribute (.Call (.Name "super" p0) [] [] p1) "__init__" p2) [.JoinedStr [.Constant (.str txt) j p3, .FormattedValue (.Name y p4) (-1) none p5] p6] [] p7
abbrev supBody (txt y f : Str) (j : Nat) (p0 p1 p2 p3 p4 p5 p6 p7 p8 p9 p10 p11 p12 : Pos) : List Stmt :=
  [.Expr (supCall txt y j p0 p1 p2 p3 p4 p5 p6 p7) p8, .Assign [.Attribute (.Name "self" p9) f p10] (.Name y p11) p12]
theorem sup_ls {y : Str} {m : List (Str × Const)} (h : ("super" : Str) ≠ y) : (supScope y m).names.lookup ("super" : Str) = some .globalImplicit := by
  show List.lookup ("super" : Str) [(("self" : Str), NameKind.local), (y, .local), (("__class__" : Str), .free), (("super" : Str), .globalImplicit)] = _
  rw [List.lookup_cons, show (("super" : Str) == ("self" : Str)) = false by decide, List.lookup_cons, beq_eq_false_iff_ne.mpr h]
  rfl
theorem sup_lc {y : Str} {m : List (Str × Const)} (h : ("__class__" : Str) ≠ y) : (supScope y m).names.lookup ("__class__" : Str) = some .free := by
  show List.lookup ("__class__" : Str) [(("self" : Str), NameKind.local), (y, .local), (("__class__" : Str), .free), (("super" : Str), .globalImplicit)] = _
  rw [List.lookup_cons, show (("__class__" : Str) == ("self" : Str)) = false by decide, List.lookup_cons, beq_eq_false_iff_ne.mpr h]
  rfl
theorem sup_inv {y : Str} {m : List (Str × Const)} {qual : Str} {fI cc cda C a : Addr} {A : Around} {outer : List Env} {h h1 : Heap} {g : Array GenState} {d : Drawn} {t t1 : Nat} {os : OsState} {H : Hp} {i : Int} {tk : Tok} {xe : Value → Shared → Prop} {cl : Value} {cld : Option Addr} {csl : Array (Option Value)}
    (hd : A.handled = none) (e0 : Env0 P w K mg base A outer ⟨h, g, d, t, os⟩ H) (hy : y ≠ "self") (hcell : K.lookup cc = some ⟨cl, cld, .cell (some (.ref C)), csl⟩)
    (hns : h1.Ns h.objs.size (fun x => ([("self", Value.ref a), (y, Value.int i tk)] : List (Str × Value)).reverse.lookup x)) (hk : ∀ b o, h.get? b = some o → h1.get? b = some o) :
    Inv (sxOf P w K mg base ["self", y] (PySem.W.ksEnv qual (supScope y m) h.objs.size fI (.ref cda) cc) A outer ⟨h, g, d, t, os⟩ H xe) [] [some (.ref a), some (.int i)] H ⟨h1, g, d, t1, os⟩ := by
  have noA : ∀ b : Addr, b ∉ ([] : List Addr) := fun b z => by cases z
  have only : ∀ {x : Str} {c : Addr}, (([("__class__", cc)] : List (Str × Addr)).lookup x) = some c → x = "__class__" ∧ c = cc := fun {x c} e => by
    rw [List.lookup_cons] at e
    cases q : x == ("__class__" : Str) with
    | true => rw [q] at e; cases e; exact ⟨beq_iff_eq.mp q, rfl⟩
    | false => rw [q] at e; cases e
  have bcc : base.get? cc = some ⟨cl, cld, .cell (some (.ref C)), csl⟩ := e0.mod.kin _ _ hcell
  refine ⟨⟨e0.mod, rfl, rfl, rfl, Nat.le_refl _, fun x z c h1 h2 => ?_, fun x hx => ?_, fun x c z => (by cases z), fun _ => hd, Around.frames_deeper e0.frames, .inr ⟨rfl, rfl⟩, fun b z => absurd z (noA b), e0.bs, e0.bsz, fun b _ _ => noA b, fun b z => absurd z (noA b), e0.funs, e0.frf⟩,
    rfl, e0.bare, Un.kept hk, ⟨_, hns, fun n x v h1 h2 h3 => ?_⟩, fun x c e => ?_, e0.hok.fresh (Nat.le_refl _), fun x c e => ?_, fun p hp => absurd (show p ∈ ([] : List (Addr × Obj)) from hp) (by simp), e0.hok.kept hk, rfl⟩
  · rw [(only h1).1, (only h2).1]
  · have hx' : (supScope y m).names.lookup x = some .cell ∨ (supScope y m).names.lookup x = some .free := hx
    have : x = "__class__" := by
      simp only [supScope, List.lookup_cons] at hx'
      by_cases q1 : (x == ("self" : Str)) = true
      · rw [q1] at hx'; rcases hx' with z | z <;> cases z
      · rw [Bool.not_eq_true] at q1; rw [q1] at hx'
        by_cases q2 : (x == y) = true
        · rw [q2] at hx'; rcases hx' with z | z <;> cases z
        · rw [Bool.not_eq_true] at q2; rw [q2] at hx'
          by_cases q3 : (x == ("__class__" : Str)) = true
          · exact beq_iff_eq.mp q3
          · rw [Bool.not_eq_true] at q3; rw [q3] at hx'
            by_cases q4 : (x == ("super" : Str)) = true
            · rw [q4] at hx'; rcases hx' with z | z <;> cases z
            · rw [Bool.not_eq_true] at q4; rw [q4] at hx'; rcases hx' with z | z <;> cases z
    subst this
    exact ⟨cc, rfl⟩
  · match n, h1, h2 with
    | 0, h1, h2 =>
      cases h1; cases h2
      refine ⟨Value.ref a, rfl, .inl ⟨rfl, ?_⟩⟩
      show List.lookup ("self" : Str) [(y, Value.int i tk), ("self", Value.ref a)] = _
      rw [List.lookup_cons, beq_eq_false_iff_ne.mpr hy.symm]
      rfl
    | 1, h1, h2 =>
      cases h1; cases h2
      refine ⟨Value.int i tk, ⟨tk, rfl⟩, .inl ⟨?_, ?_⟩⟩
      · show (supScope y m).names.lookup y = _
        simp only [supScope, List.lookup_cons]
        rw [beq_eq_false_iff_ne.mpr hy, beq_self_eq_true]
      · show List.lookup y [(y, Value.int i tk), ("self", Value.ref a)] = _
        rw [List.lookup_cons, beq_self_eq_true]
    | n + 2, h1, h2 => cases h2
  · obtain ⟨rfl, rfl⟩ := only e
    exact ⟨_, _, hk _ _ (e0.bs _ _ bcc).1, rfl⟩
  · obtain ⟨rfl, rfl⟩ := only e
    exact (e0.bs _ _ bcc).2
theorem sup_ok {CX : CXT} {txt y f qual : Str} {m : List (Str × Const)} {j : Nat} {p0 p1 p2 p3 p4 p5 p6 p7 p8 p9 p10 p11 p12 : Pos} {params : Arguments} {dV kV doc pm ct oc ccl cl : Value} {an od cdd cld : Option Addr} {osl ccs csl : Array (Option Value)} {fI cc cda C : Addr} {vs : Array Value} {file : Str} {tf : Tok} {k : Nat} {ar : Arg}
    (lk : K.lookup fI = some ⟨oc, od, .func (PySem.W.ksFn "__init__" qual params (supBody txt y f j p0 p1 p2 p3 p4 p5 p6 p7 p8 p9 p10 p11 p12) (supScope y m) dV kV doc pm an (.ref cda) ct cc), osl⟩) (hcd : PySem.W.codeIn K (.ref cda) qual = true)
    (hcode : K.lookup cda = some ⟨ccl, cdd, .fields vs, ccs⟩) (hvs : vs[2]? = some (.str file tf)) (hfile : ((P.main.file : Str) == file) = true) (hcell : K.lookup cc = some ⟨cl, cld, .cell (some (.ref C)), csl⟩)
    (hsuper : mg "super" = none) (htop : (P.main.scope.names.lookup ("super" : Str)).isSome = false) (hany : PySem.W.nsIn K cStatics "thirdparty.any" = some none)
    (hsup : PySem.W.ks_superIn K C C "__init__" = some (some (.builtin "ValueError.__init__"))) (hB : PySem.W.subIn K (.ref C) (.type "ValueError") = some true) (hself : PySem.W.mroIn K C (.ref C) = some true)
    (T : OexC K C) (hno : PySem.W.findIn K (.ref C) f = some none) (hp : (params.posonlyargs ++ params.args).head? = some ar) (har : ar.arg = "self") (hy : y ≠ "self") (hys : ("super" : Str) ≠ y) (hyk : ("__class__" : Str) ≠ y) (hyd : (y == ("__debug__" : Str)) = false) (hyc : (y == ("__classdict__" : Str)) = false) (htx : txt.length ≤ sizeLine)
    (hev : ∀ env : Env, ∃ pl : Sem Bool, eval (supCall txt y j p0 p1 p2 p3 p4 p5 p6 p7) env = (do
      let ov ← attributeBase (.Call (.Name "super" p0) [] [] p1) "__init__" env (eval (.Call (.Name "super" p0) [] [] p1) env)
      standAt p2.atName
      let (f, first) ← holding [ov] (getMethod ov "__init__" pl)
      callWith p7 f first (backTo p7 (starEach [.JoinedStr [.Constant (.str txt) j p3, .FormattedValue (.Name y p4) (-1) none p5] p6] env)) [])) :
    FnOk P w K mg base CX (k + 1) fI (PySem.W.ksFn "__init__" qual params (supBody txt y f j p0 p1 p2 p3 p4 p5 p6 p7 p8 p9 p10 p11 p12) (supScope y m) dV kV doc pm an (.ref cda) ct cc) ["self", y] (spSup txt C f) := by
  refine ⟨fun vs H Q E h => by obtain ⟨a, i, rfl, _⟩ := h; rfl, fun A outer s H args us xs Q E hr e0 hb r hsp => ?_⟩
  obtain ⟨a, i, rfl, hi, hz, ha, hq⟩ := hsp
  obtain ⟨u1, us1, rfl, r1, r2⟩ : ∃ u us1, us = u :: us1 ∧ RelV (.ref a) u ∧ Vals [.int i] us1 := by cases r with | cons r1 r2 => exact ⟨_, _, rfl, r1, r2⟩
  obtain ⟨u2, rfl, r3⟩ := vals1 r2
  obtain rfl : u1 = Value.ref a := r1
  obtain ⟨tk, rfl⟩ := r3
  obtain ⟨hp0, g, d, t, os⟩ := s
  have KX : K.In hp0 := e0.mod.kin.keeps fun b o e => (e0.bs b o e).1
  have lim : hp0.NoLimit := e0.mod.nolimit.keeps fun b o e => (e0.bs b o e).1
  refine ks_codeAny_call_defAt (fd := PySem.W.ksFn "__init__" qual params (supBody txt y f j p0 p1 p2 p3 p4 p5 p6 p7 p8 p9 p10 p11 p12) (supScope y m) dV kV doc pm an (.ref cda) ct cc) (binds := [("self", Value.ref a), (y, Value.int i tk)])
    hr.depth (KX _ _ lk) rfl lim (PySem.W.codeRec_of KX hcd) rfl hb (fun x hx => ?_) (fun x hx => ?_) (fun h1 hns hk => ?_)
  · simp only [supScope, List.mem_cons, List.not_mem_nil, or_false] at hx
    rcases hx with rfl | rfl | rfl | rfl <;> exact fun z => by cases z
  · simp only [List.mem_cons, List.not_mem_nil, or_false] at hx
    rcases hx with rfl | rfl
    · rfl
    · show (supScope y m).names.lookup y = _
      simp only [supScope, List.lookup_cons]
      rw [beq_eq_false_iff_ne.mpr hy, beq_self_eq_true]
  let env := PySem.W.ksEnv qual (supScope y m) hp0.objs.size fI (.ref cda) cc
  let X := sxOf P w K mg base ["self", y] env A outer ⟨hp0, g, d, t, os⟩ H (fun e s' => wpAny (model P w) (A.deeper env) (leaving env e) (fun _ s'' => CR CX outer P w H ⟨hp0, g, d, t, os⟩ Q E (.error e) s'') (fun e' s'' => CR CX outer P w H ⟨hp0, g, d, t, os⟩ Q E (.error e') s'') s')
  have I : Inv X [] [some (.ref a), some (.int i)] H ⟨h1, g, d, t + 2, os⟩ := sup_inv (t1 := t + 2) hr.hd e0 hy hcell hns hk
  have KX1 : K.In h1 := I.kIn
  obtain ⟨t1, hx⟩ := exo_at I.hok ha
  obtain ⟨cd, hcls⟩ : ∃ cd, PySem.W.clsIn K C = some cd := by
    unfold PySem.W.ks_superIn at hsup
    cases q : PySem.W.clsIn K C with
    | none => rw [q] at hsup; cases hsup
    | some cd => exact ⟨cd, rfl⟩
  obtain ⟨oD, hD1, hD2⟩ : ∃ oD, h1.get? C = some oD ∧ oD.data = .cls cd := by
    unfold PySem.W.clsIn at hcls
    split at hcls
    · rename_i ho
      cases hcls
      exact ⟨_, KX1 _ _ ho, rfl⟩
    · cases hcls
  show PySem.wpAt (model P w) X.A (.func _ X.env) (execs _ X.env) _ X.xe _
  refine ks_wpAt_execs_cons (ks_wpAt_Expr_any ?_ rfl rfl)
  obtain ⟨pl, he⟩ := hev X.env
  refine ks_wpAt_MethodCall (pl := pl) ?_ he
  refine ks_wpAt_super_base (f := fI) (cc := cda) ?_ ?_ rfl rfl (KX1 _ _ lk) rfl hp rfl (KX1 _ _ hcode) rfl hvs hfile htop ?_
  · exact sup_ls hys
  · exact sup_lc hyk
  have hks : X.env.kindOf "super" = some .globalImplicit := sup_ls hys
  have hkc : X.env.kindOf "__class__" = some .free := sup_lc hyk
  obtain ⟨mb, hb1, hb2⟩ := I.mod.blt
  refine PySem.W.ks_loadName_global rfl hks (Calls.loadGlobal_builtin (I.mod.glob.keeps I.bk) hsuper (hb1.keeps I.bk) ((hb2 "super" (by decide)).trans rfl) ⟨rfl, ?_⟩)
  refine wpAny_loadName_free rfl hkc rfl ⟨_, KX1 _ _ hcell, rfl⟩ ?_
  rw [har]
  refine wpAny_loadName_local (v := Value.ref a) rfl rfl hns ?_ ?_
  · show List.lookup ("self" : Str) [(y, Value.int i tk), ("self", Value.ref a)] = _
    rw [List.lookup_cons, beq_eq_false_iff_ne.mpr hy.symm]
    rfl
  refine ks_wpAny_isType_cls hD1 hD2 ⟨rfl, ?_⟩
  refine ks_wpAny_call_super hD1 hD2 hx rfl (fun c e => by cases e) (PySem.W.looks_mroIn KX1 hself) fun h2 e2 k2 => ?_
  have I2 : Inv X [] [some (.ref a), some (.int i)] H ⟨h2, g, d, t + 2, os⟩ := I.kept (t' := t + 2) k2
  have KX2 : K.In h2 := I2.kIn
  have ia : PySem.W.InstAt h2 a { cls := .ref C, dict := none, data := .fields #[.ref t1, .none, .none, .none, .bool false, .none] } C none := ⟨k2 _ _ hx, rfl, rfl, trivial⟩
  have hI : PySem.W.Looks (model P w) h2 (isInstance (.ref a) (.type "ValueError")) true := ia.type.andThen (PySem.W.looks_subIn KX2 hB)
  have hsup' := hsup
  unfold PySem.W.ks_superIn at hsup'
  rw [hcls, Option.bind_some] at hsup'
  refine PySem.W.kxs_getMethod PySem.W.kxs_ValueError e2 (PySem.W.looks_opaque KX2 hany) (l₀ := cd.mro) (fun A Q E s k q => wpAny_bind ((PySem.W.looks_clsIn KX2 hcls) A _ E s k (wpAny_pure q))) rfl KX2 hsup' hI (PySem.W.ks_ne KX2 ia hcls) rfl ?_
  have k3 : ∀ b o, h2.get? b = some o → (h2.push (PySem.W.kxs_mw "ValueError.__init__" a)).get? b = some o := fun b o e => Heap.get?_push_of_some _ e
  have hu : (h2.push (PySem.W.kxs_mw "ValueError.__init__" a)).get? h2.objs.size = some (PySem.W.kxs_mw "ValueError.__init__" a) := Heap.get?_push_at rfl rfl
  have I3 : Inv X [(h2.objs.size, PySem.W.kxs_mw "ValueError.__init__" a)] [some (.ref a), some (.int i)] H ⟨h2.push (PySem.W.kxs_mw "ValueError.__init__" a), g, d, t + 2 + 1, os⟩ :=
    (I2.kept (t' := t + 2 + 1) k3).pins_of fun p hp => by
      obtain rfl := List.mem_singleton.mp hp
      exact ⟨hu, I2.hok.fresh (Nat.le_refl _), Nat.ne_of_gt I2.lt, I2.nofs (Nat.le_refl _), fun v z => by cases z⟩
  have hky : X.env.kindOf y = some .local := by
    show (supScope y m).names.lookup y = _
    simp only [supScope, List.lookup_cons]
    rw [beq_eq_false_iff_ne.mpr hy, beq_self_eq_true]
  have pa : PA X [.JoinedStr [.Constant (.str txt) j p3, .FormattedValue (.Name y p4) (-1) none p5] p6] _ := pa_cons (pe_joined (.cons pe_str (.cons (pe_fmt (pe_var (i := 1) rfl (.inl hky) hyd hyc)) .nil))) pa_nil
  refine mw_with (i := "ValueError.__init__") (x := a) (thn (pa.run p7 _ _ _ H (fun vs H1 => H1 = H ∧ ∃ x, vs = [.str x] ∧ x.length ≤ sizeLine) I3 ?_) fun us4 s4 h4 => ?_)
  · have e0 : Str.empty ++ txt = txt := by
      show Str.mk _ = _
      simp [Str.empty]
    refine ⟨txt, rfl, by rw [e0]; exact htx, ?_⟩
    rw [e0]
    refine ⟨.int i, rfl, .inr ⟨i, rfl, hi, ?_⟩⟩
    exact ⟨_, rfl, hz, rfl, _, rfl, hz⟩
  obtain ⟨vs4, H4, I4, r4, hH4, x4, rfl, hx4⟩ := h4
  obtain rfl := hH4.symm
  obtain ⟨pu, _⟩ := I4.pin (h2.objs.size, PySem.W.kxs_mw "ValueError.__init__" a) (List.mem_append_right _ (List.mem_singleton.mpr rfl))
  refine ⟨pu, ?_⟩
  obtain ⟨u4, rfl, ru4⟩ := vals1 r4
  obtain ⟨nm, q, N, bs, bm, sn, sub, ab, col, dd, k0, k1, k2, k3, k5, hC, hbm⟩ := T.cls
  obtain ⟨t4, hx5⟩ := exo_at I4.hok ha
  obtain ⟨h4, g4, d4, tt4, os4⟩ := s4
  refine mw_run (I4.kIn _ _ hC) hx5 pu (by show 1 ≤ sizeLine; rw [sizeLine_eq]; decide) fun h5 t5 k5 e5 => ?_
  have J := I4.write (t' := tt4) (x := a) (e := a) (o := exo a C none) (by rw [ha]; exact True.intro) (.inl rfl) k5 ⟨_, e5⟩ (exo_ok e5)
  have eu : upd H a (exo a C none) = H := by
    funext b
    by_cases hb : b = a
    · rw [hb, upd_same, ha]
    · rw [upd_ne hb]
  rw [eu] at J
  have J1 := J.pins_of (pins' := []) fun p hp => by cases hp
  have vs : Vis X.env.scope "self" := .inl rfl
  have ps : PSs X [.Assign [.Attribute (.Name "self" p9) f p10] (.Name y p11) p12] _ := pss_one (ps_ost (pe_var (i := 0) rfl vs) (pe_var (i := 1) rfl (.inl hky) hyd hyc) rfl)
  refine PySem.wpAt_of_wpAny (wpAny_mono (ps.run [] _ _ H ⟨fun _ H' => Q .non H', fun _ _ => False, fun _ _ => False, fun _ _ => False⟩ J1 ?_) (fun fl s' hs => ?_) fun e s' hs => hs)
  · refine ⟨.int i, rfl, .ref a, rfl, a, C, rfl, T, hno, .inl ⟨ha, fun dx hd1 hd2 => hq dx hd1 hd2⟩⟩
  · cases fl with
    | next =>
      obtain ⟨σ', H', J2, q⟩ := hs
      exact ⟨V.non, H', J2.os, J2.bare, J2.base, J2.hok, rfl, q⟩
    | ret u => obtain ⟨_, _, _, _, _, q⟩ := hs; exact q.elim
    | brk => obtain ⟨_, _, _, q⟩ := hs; exact q.elim
    | cont => obtain ⟨_, _, _, q⟩ := hs; exact q.elim
end
end DL
namespace DL
open PySem PySem.Spec L2 PyProof.Rows
theorem refs_of : ∀ l : List Value, PySem.W.excTail HandSPX.veTail l = true → HandSPX.refsVE l = true
  | [], e => by cases (beq_iff_eq.mp e : ([] : List Value) = HandSPX.veTail)
  | a :: r, e => by
    rcases PySem.W.excTail_cases (a :: r) e with ⟨c, r', q, h⟩ | q
    · obtain ⟨rfl, rfl⟩ := List.cons.inj q
      exact refs_of r h
    · rw [q]; decide
theorem oex_of {K : PySem.W.Frag} {C : Addr} (q : PySem.W.excInitIn K C [.type "ValueError", .type "Exception", .type "BaseException", .type "object"] "ValueError.__new__" = true) (hd : PySem.W.hasDictIn K C = true) (sa : PySem.W.findIn K (.ref C) "__setattr__" = some (some (.builtin "object.__setattr__")))
    (b : PySem.W.subIn K (.ref C) (.type "BaseException") = some true) (t : PySem.W.typeIn K (.ref C) = some (.type "type")) (k : PySem.W.keepIn K (.ref C) = true) : OexC K C := by
  refine ⟨?_, sa, b, t, k⟩
  unfold PySem.W.excInitIn at q
  split at q
  · rename_i dd cd sl ho
    split at q
    · rename_i C' bm k0 k1 k2 k3 n k5 hm hs
      simp only [Bool.and_eq_true, beq_iff_eq, Bool.not_eq_true'] at q
      obtain ⟨⟨⟨rfl, rfl⟩, hdel⟩, ht⟩ := q
      obtain ⟨cd', hc, hh⟩ := PySem.W.any_some hd
      unfold PySem.W.clsIn at hc
      rw [ho] at hc
      cases hc
      obtain ⟨nm, bs, mro, ns, qn, hasd, sn, sub, ab, col, del⟩ := cd
      dsimp only at hm hdel hh
      subst hm hdel hh
      obtain ⟨l⟩ := sl
      simp only at hs
      subst hs
      exact ⟨nm, qn, ns, bs, bm, sn, sub, ab, col, dd, k0, k1, k2, k3, k5, ho, refs_of bm ht⟩
    · cases q
  · cases q
structure SupC (P : Program) (w : World) (K : PySem.W.Frag) (mg : Str → Option Value) (x : Str) (C : Addr) (f txt : Str) : Prop where
  mgc : mg x = some (.ref C)
  oex : OexC K C
  run : ∃ (fI : Addr) (fd : FuncData) (y : Str), PySem.W.findIn K (.ref C) "__init__" = some (some (.ref fI)) ∧ PySem.W.typeIn K (.ref fI) = some (.type "function") ∧ (∀ base : Heap, FnOk P w K mg base CX0 1 fI fd ["self", y] (spSup txt C f)) ∧ Binds K fd ["self", y] []
  ex : PySem.W.exmOne K (.ref C) (.ref C) = some true
  xf : XfC K C
  no : PySem.W.findIn K (.ref C) f = some none
def supFit (txt : Str) (i : Int) : Prop := i.natAbs.log2 < 1920 ∧ (txt ++ PySem.Str.ofString (toString i)).length ≤ sizeLine
theorem supFit_of {txt : Str} {i : Int} (h : i.natAbs < 1000000) (ht : txt.length ≤ 1000) : supFit txt i := by
  refine ⟨?_, ?_⟩
  · by_cases e : i.natAbs = 0
    · rw [e]; decide
    · exact (Nat.log2_lt e).mpr (Nat.lt_of_lt_of_le h (by
        exact Nat.le_trans (show 1000000 ≤ 2 ^ 20 by decide) (Nat.pow_le_pow_right (by decide) (by decide))))
  · have e := int_text_length_le10 (k := 6) (a := i) (by decide) h
    have e2 : (txt ++ PySem.Str.ofString (toString i)).length = txt.length + (PySem.Str.ofString (toString i)).length := PySem.Str.length_append ..
    rw [e2, PySem.ofString_length, sizeLine_eq]
    omega
def siW (o : Option D) (k : Int → Prop) (l : Lock k) : Prop := match o with
  | some (.int i) => k i
  | _ => False
theorem s_si {i : Int} {k l} : siW (some (.int i)) k l = k i := rfl
section
variable {Z : ZX} {X : Cx} {K : PySem.W.Frag} {F H F' H' : Hp} {A A' : List Addr} {σ : L2.St} {s : DSt} {pos : Pos}
def mRaiseS (D : Value → Pay → DSt → Prop) (c : Value) (f txt : Str) (m : TD) : TSd := fun _ s => m s fun w s1 => siW (res s1 w) (fun i => supFit txt i ∧ D c (some [(f, .int i)]) s1) .mk
theorem s_raiseS {D : Value → Pay → DSt → Prop} {c : Value} {f txt : Str} {m : TD} {D0 : DEnds} : mRaiseS D c f txt m D0 s = m s fun w s1 => siW (res s1 w) (fun i => supFit txt i ∧ D c (some [(f, .int i)]) s1) .mk := rfl
theorem LiftS.raiseS {C : Addr} {f txt : Str} {t : TE} {m : TD} (l : Lift Z t m) : LiftS Z (fun _ σ H => tMkO C (spSup txt C f) [] (tCons t tNil) σ H fun cls d H' => Z.W cls d σ H') (mRaiseS Z.D (.ref C) f txt m) := by
  intro σ H F A s D Dd R h e
  refine l σ H F A s _ _ R h fun w s1 v F1 H1 Av A1 h1 o1 => ?_
  cases er : res s1 w with
  | none => rw [er] at h1; exact h1.elim
  | some x =>
    rw [er] at h1
    cases x with
    | int i =>
      obtain ⟨⟨f1, f2⟩, h2⟩ := h1
      have z := o1.wow.view o1.sub o1.own er
      cases z
      refine ⟨(by show 1 ≤ 1000; decide), fun a ha => ⟨a, i, rfl, f1, f2, upd_same, fun d hd hda => ⟨rfl, d, [(f, .int i)], upd_same, ?_, ?_, ?_⟩⟩⟩
      · rw [upd_ne hda]; exact upd_same
      · rw [upd_ne hda] at hd; exact hd
      · rw [upd_ne hda] at hd
        have eH : upd (del (upd (upd (upd H1 a (exo a C none)) d (exd d [(f, .int i)])) a (exo a C (some d))) a) d (.xd [(f, .int i)]) = upd H1 d (.xd [(f, .int i)]) := by
          funext b
          by_cases hb : b = d
          · subst hb; rw [upd_same, upd_same]
          · rw [upd_ne hb, upd_ne hb]
            by_cases hb2 : b = a
            · subst hb2; rw [del_same, ha]
            · rw [del_ne hb2, upd_ne hb2, upd_ne hb, upd_ne hb2]
        rw [eH]
        have sf : F1 d = none := o1.sub.fresh hd
        have g0 : Frm F1 H1 [] (upd F1 d (.xd [(f, .int i)])) (upd H1 d (.xd [(f, .int i)])) [] := .ext (fun b o q => by rw [upd_ne (fun z => by subst z; rw [sf] at q; cases q)]; exact q) (fun b o q => by rw [upd_ne (fun z => by subst z; rw [hd] at q; cases q)]; exact q) (fun b q => .inl q) (fun b o q => by
            by_cases hb : b = d
            · subst hb; exact .inr (.inr hd)
            · rw [upd_ne hb] at q; exact .inl q) (fun b ps q => by
            by_cases hb : b = d
            · subst hb; rw [upd_same] at q; cases q
            · rw [upd_ne hb] at q; exact q)
        have o1w := o1.fr.weak (A2 := A1) fun b q => List.mem_append_right _ q
        have sb2 : Sub (upd F1 d (.xd [(f, .int i)])) (upd H1 d (.xd [(f, .int i)])) := fun b o q => by
          by_cases hb : b = d
          · subst hb; rw [upd_same] at q; cases q; exact .inl upd_same
          · rw [upd_ne hb] at q
            rw [upd_ne hb]
            refine (o1.sub b o q).imp id fun q => q.imp id fun ⟨q, e1, t⟩ => ⟨q, e1, ?_⟩
            exact t.ext fun c oc hc => by rw [upd_ne (fun z => by subst z; rw [hd] at hc; cases hc)]; exact hc
        have ow2 := o1.own.keep g0 fun a _ q => by cases q
        have g : Frm F1 H1 A1 (upd F1 d (.xd [(f, .int i)])) (upd H1 d (.xd [(f, .int i)])) A1 := g0.more (fun a q => by cases q) fun a q => .inl q
        exact R.ex.im (.ref C) (some d) (some [(f, .int i)]) σ s1 _ _ A1 (o1w.trans0 g) sb2 ow2 (nd_r o1.nd) ⟨_, upd_same, .cons (.int i) .nil⟩ h2
    | _ => exact h1.elim
theorem ds_raiseS {x f txt : Str} {p cp : Pos} {C : Addr} {e : Expr} {t : TE} {m : TD} (c : SupC X.prog X.w X.K X.mg x C f txt) (hr : Room 2 X.A) (hc : X.calm = true) (tk : Takes X Z.W) (hg : Gl X x) (he : DE Z X e t m) (hdb : (x == ("__debug__" : Str)) = false := by decide)
    (hst : starEach [e] X.env = (false, eval e X.env) :: starEach [] X.env := by rfl) (hpl : (backTo cp (starEach [] X.env)).any (·.1) = false := by rfl) : DS Z X (.Raise (some (.Call (.Name x p) [e] [] cp)) none pos) (fun _ σ H => tMkO C (spSup txt C f) [] (tCons t tNil) σ H fun cls d H' => Z.W cls d σ H') (mRaiseS Z.D (.ref C) f txt m) := by
  obtain ⟨fI, fd, y, h1, h2, h3, h4⟩ := c.run
  exact ⟨ps_raise hc tk (pmk_oex c.oex h1 h2 (h3 X.base) hr h4 .nil pass0 hg c.mgc (pa_cons he.pe pa_nil hst) hdb hst hpl), .raiseS he.lf⟩
end
end DL
namespace DL
open PySem PySem.Spec L2
theorem qd : ((((((type_of% @s_var ∧ (type_of% @s_c ∧ type_of% @s_op)) ∧ ((type_of% @s_test ∧ type_of% @s_truth) ∧ (type_of% @s_chain ∧ type_of% @s_and))) ∧ (((type_of% @s_or ∧ type_of% @s_not) ∧ (type_of% @s_andV ∧ type_of% @s_orV)) ∧ ((type_of% @s_notV ∧ type_of% @s_if) ∧ (type_of% @s_un ∧ type_of% @s_nil)))) ∧ (((type_of% @s_cons ∧ (type_of% @s_cb ∧ type_of% @s_call)) ∧ ((type_of% @s_tup ∧ type_of% @s_lst) ∧ (type_of% @s_nopart ∧ type_of% @s_part))) ∧ (((type_of% @s_sl ∧ type_of% @s_app) ∧ (type_of% @s_items ∧ type_of% @s_rng1)) ∧ ((type_of% @s_rng2 ∧ type_of% @s_rng3) ∧ (type_of% @s_next ∧ type_of% @s_break))))) ∧ ((((type_of% @s_cont ∧ (type_of% @s_drop ∧ type_of% @s_ret)) ∧ ((type_of% @s_retN ∧ type_of% @s_ifS) ∧ (type_of% @s_asg ∧ type_of% @s_gNm))) ∧ (((type_of% @s_gTup ∧ type_of% @s_gNil) ∧ (type_of% @s_gCons ∧ type_of% @s_aug)) ∧ ((type_of% @s_par ∧ type_of% @s_for) ∧ (type_of% @s_while ∧ type_of% @s_lc)))) ∧ (((type_of% @s_lc2 ∧ (type_of% @s_yes ∧ type_of% @s_tvs0)) ∧ ((type_of% @s_tvs1 ∧ type_of% @s_tvV) ∧ (type_of% @s_tvS ∧ type_of% @s_rvV))) ∧ (((type_of% @s_rvS ∧ type_of% @s_enum) ∧ (type_of% @s_zip ∧ type_of% @s_zipM)) ∧ ((type_of% @s_keys ∧ type_of% @s_itemsT) ∧ (type_of% @s_dispT ∧ type_of% @s_varK)))))) ∧ (((((type_of% @s_callIO ∧ (type_of% @fin_t ∧ type_of% @putB_1)) ∧ ((type_of% @s_setI ∧ type_of% @s_dput) ∧ (type_of% @s_daug ∧ type_of% @s_dnew))) ∧ (((type_of% @s_disp ∧ type_of% @s_flat0) ∧ (type_of% @s_flat1 ∧ type_of% @s_never)) ∧ ((type_of% @s_raise ∧ type_of% @s_neverE) ∧ (type_of% @br_t ∧ type_of% @br_f)))) ∧ (((type_of% @s_fin0 ∧ (type_of% @s_ref ∧ type_of% @s_ext)) ∧ ((type_of% @s_dget ∧ type_of% @s_prod) ∧ (type_of% @s_dc ∧ type_of% @s_put))) ∧ (((type_of% @s_in ∧ type_of% @s_sortLen) ∧ (type_of% @s_tupRg ∧ type_of% @s_lstRg)) ∧ ((type_of% @s_rg1 ∧ type_of% @s_rg2) ∧ (type_of% @gset_un ∧ type_of% @gset_v))))) ∧ ((((type_of% @s_attr ∧ (type_of% @s_atS ∧ type_of% @s_atV)) ∧ ((type_of% @s_setA ∧ type_of% @s_rcv) ∧ (type_of% @s_isO ∧ type_of% @s_make))) ∧ (((type_of% @s_fz ∧ type_of% @s_fzV) ∧ (type_of% @s_prop ∧ type_of% @s_isI)) ∧ ((type_of% @s_appW ∧ type_of% @s_fldL) ∧ (type_of% @s_forA ∧ type_of% @s_fldIt)))) ∧ ((((type_of% @s_tvF ∧ type_of% @s_rvF) ∧ (type_of% @s_lenSet ∧ type_of% @s_augL)) ∧ ((type_of% @s_iadd ∧ type_of% @s_try) ∧ (type_of% @s_many0 ∧ type_of% @s_many1))) ∧ (((type_of% @dcs_t ∧ type_of% @dcs_f) ∧ (type_of% @s_as ∧ type_of% @s_tryA)) ∧ ((type_of% @s_asN ∧ type_of% @s_asX) ∧ (type_of% @s_mXf ∧ type_of% @s_raiseS))))))) := ⟨⟨⟨⟨⟨⟨@s_var, ⟨@s_c, @s_op⟩⟩, ⟨⟨@s_test, @s_truth⟩, ⟨@s_chain, @s_and⟩⟩⟩, ⟨⟨⟨@s_or, @s_not⟩, ⟨@s_andV, @s_orV⟩⟩, ⟨⟨@s_notV, @s_if⟩, ⟨@s_un, @s_nil⟩⟩⟩⟩, ⟨⟨⟨@s_cons, ⟨@s_cb, @s_call⟩⟩, ⟨⟨@s_tup, @s_lst⟩, ⟨@s_nopart, @s_part⟩⟩⟩, ⟨⟨⟨@s_sl, @s_app⟩, ⟨@s_items, @s_rng1⟩⟩, ⟨⟨@s_rng2, @s_rng3⟩, ⟨@s_next, @s_break⟩⟩⟩⟩⟩, ⟨⟨⟨⟨@s_cont, ⟨@s_drop, @s_ret⟩⟩, ⟨⟨@s_retN, @s_ifS⟩, ⟨@s_asg, @s_gNm⟩⟩⟩, ⟨⟨⟨@s_gTup, @s_gNil⟩, ⟨@s_gCons, @s_aug⟩⟩, ⟨⟨@s_par, @s_for⟩, ⟨@s_while, @s_lc⟩⟩⟩⟩, ⟨⟨⟨@s_lc2, ⟨@s_yes, @s_tvs0⟩⟩, ⟨⟨@s_tvs1, @s_tvV⟩, ⟨@s_tvS, @s_rvV⟩⟩⟩, ⟨⟨⟨@s_rvS, @s_enum⟩, ⟨@s_zip, @s_zipM⟩⟩, ⟨⟨@s_keys, @s_itemsT⟩, ⟨@s_dispT, @s_varK⟩⟩⟩⟩⟩⟩, ⟨⟨⟨⟨⟨@s_callIO, ⟨@fin_t, @putB_1⟩⟩, ⟨⟨@s_setI, @s_dput⟩, ⟨@s_daug, @s_dnew⟩⟩⟩, ⟨⟨⟨@s_disp, @s_flat0⟩, ⟨@s_flat1, @s_never⟩⟩, ⟨⟨@s_raise, @s_neverE⟩, ⟨@br_t, @br_f⟩⟩⟩⟩, ⟨⟨⟨@s_fin0, ⟨@s_ref, @s_ext⟩⟩, ⟨⟨@s_dget, @s_prod⟩, ⟨@s_dc, @s_put⟩⟩⟩, ⟨⟨⟨@s_in, @s_sortLen⟩, ⟨@s_tupRg, @s_lstRg⟩⟩, ⟨⟨@s_rg1, @s_rg2⟩, ⟨@gset_un, @gset_v⟩⟩⟩⟩⟩, ⟨⟨⟨⟨@s_attr, ⟨@s_atS, @s_atV⟩⟩, ⟨⟨@s_setA, @s_rcv⟩, ⟨@s_isO, @s_make⟩⟩⟩, ⟨⟨⟨@s_fz, @s_fzV⟩, ⟨@s_prop, @s_isI⟩⟩, ⟨⟨@s_appW, @s_fldL⟩, ⟨@s_forA, @s_fldIt⟩⟩⟩⟩, ⟨⟨⟨⟨@s_tvF, @s_rvF⟩, ⟨@s_lenSet, @s_augL⟩⟩, ⟨⟨@s_iadd, @s_try⟩, ⟨@s_many0, @s_many1⟩⟩⟩, ⟨⟨⟨@dcs_t, @dcs_f⟩, ⟨@s_as, @s_tryA⟩⟩, ⟨⟨@s_asN, @s_asX⟩, ⟨@s_mXf, @s_raiseS⟩⟩⟩⟩⟩⟩⟩
theorem qu : (((((((type_of% @iz_valT ∧ (type_of% @iz_valL ∧ type_of% @iz_slot)) ∧ (type_of% @iz_mT ∧ (type_of% @iz_mL ∧ type_of% @z_mkT))) ∧ ((type_of% @k_mT ∧ (type_of% @k_mL ∧ type_of% @z_valT)) ∧ ((type_of% @z_valL ∧ type_of% @z_slot) ∧ (type_of% @z_mT ∧ type_of% @z_mL)))) ∧ (((type_of% @o_ixDT ∧ (type_of% @o_ixDL ∧ type_of% @o_inDT)) ∧ (type_of% @pins_nil ∧ (type_of% @pins_p ∧ type_of% @pins_v))) ∧ ((type_of% @pins_un ∧ (type_of% @lent1 ∧ type_of% @slotL_s)) ∧ ((type_of% @s_resV ∧ type_of% @s_resS) ∧ (type_of% @s_resL0 ∧ type_of% @s_resL1))))) ∧ ((((type_of% @s_slotM ∧ (type_of% @s_setM ∧ type_of% @s_frz)) ∧ (type_of% @s_frzL ∧ (type_of% @wD_some ∧ type_of% @got_v))) ∧ ((type_of% @got_p ∧ (type_of% @vslot_v ∧ type_of% @fslot_v)) ∧ ((type_of% @asB_b ∧ type_of% @asI_i) ∧ (type_of% @asT_t ∧ type_of% @asL_l)))) ∧ (((type_of% @hasL_l ∧ (type_of% @one_1 ∧ type_of% @two_2)) ∧ ((type_of% @int1_1 ∧ type_of% @int2_2) ∧ (type_of% @int3_3 ∧ type_of% @ix0))) ∧ ((type_of% @ix1 ∧ (type_of% @opz_f1 ∧ type_of% @o_iop)) ∧ ((type_of% @b_lt ∧ type_of% @o_addI) ∧ (type_of% @o_addS ∧ type_of% @o_addT)))))) ∧ (((((type_of% @o_addL ∧ (type_of% @o_mulI ∧ type_of% @o_mulT)) ∧ (type_of% @o_mulL ∧ (type_of% @o_ixL ∧ type_of% @o_ixT))) ∧ ((type_of% @o_ixW ∧ (type_of% @o_ixC ∧ type_of% @o_ixS)) ∧ ((type_of% @o_slL ∧ type_of% @o_slT) ∧ (type_of% @o_slS ∧ type_of% @o_lenL)))) ∧ (((type_of% @o_lenT ∧ (type_of% @o_lenW ∧ type_of% @o_lenC)) ∧ ((type_of% @o_lenD ∧ type_of% @o_lenS) ∧ (type_of% @o_abs ∧ type_of% @o_intI))) ∧ ((type_of% @o_intB ∧ (type_of% @o_str ∧ type_of% @o_list)) ∧ ((type_of% @o_tupL ∧ type_of% @o_tupT) ∧ (type_of% @o_isN ∧ type_of% @o_isNotN))))) ∧ ((((type_of% @o_isTy ∧ (type_of% @o_isiB ∧ type_of% @o_isiI)) ∧ (type_of% @o_isiS ∧ (type_of% @o_isiN ∧ type_of% @o_isiL))) ∧ ((type_of% @o_isiT ∧ (type_of% @is_NoneType_bool ∧ type_of% @is_NoneType_int)) ∧ ((type_of% @is_NoneType_str ∧ type_of% @is_NoneType_list) ∧ (type_of% @is_NoneType_tuple ∧ type_of% @is_NoneType_dict)))) ∧ (((type_of% @is_bool_bool ∧ (type_of% @is_bool_int ∧ type_of% @is_bool_str)) ∧ ((type_of% @is_bool_list ∧ type_of% @is_bool_tuple) ∧ (type_of% @is_bool_dict ∧ type_of% @is_int_bool))) ∧ ((type_of% @is_int_int ∧ (type_of% @is_int_str ∧ type_of% @is_int_list)) ∧ ((type_of% @is_int_tuple ∧ type_of% @is_int_dict) ∧ (type_of% @is_str_bool ∧ type_of% @is_str_int))))))) ∧ ((((((type_of% @is_str_str ∧ (type_of% @is_str_list ∧ type_of% @is_str_tuple)) ∧ (type_of% @is_str_dict ∧ (type_of% @is_list_bool ∧ type_of% @is_list_int))) ∧ ((type_of% @is_list_str ∧ (type_of% @is_list_list ∧ type_of% @is_list_tuple)) ∧ ((type_of% @is_list_dict ∧ type_of% @is_tuple_bool) ∧ (type_of% @is_tuple_int ∧ type_of% @is_tuple_str)))) ∧ (((type_of% @is_tuple_list ∧ (type_of% @is_tuple_tuple ∧ type_of% @is_tuple_dict)) ∧ (type_of% @im_bool ∧ (type_of% @im_int ∧ type_of% @im_str))) ∧ ((type_of% @im_list ∧ (type_of% @im_tuple ∧ type_of% @im_dict)) ∧ ((type_of% @o_neg ∧ type_of% @t_non) ∧ (type_of% @t_bl ∧ type_of% @t_int))))) ∧ ((((type_of% @t_str ∧ (type_of% @t_lst ∧ type_of% @t_tup)) ∧ (type_of% @t_wtu ∧ (type_of% @t_dic ∧ type_of% @i_lst))) ∧ ((type_of% @i_tup ∧ (type_of% @i_wtu ∧ type_of% @i_scr)) ∧ ((type_of% @i_str ∧ type_of% @q_lst) ∧ (type_of% @q_scr ∧ type_of% @q_tup)))) ∧ (((type_of% @q_wtu ∧ (type_of% @o_sort2 ∧ type_of% @o_sort2T)) ∧ ((type_of% @o_sort2D ∧ type_of% @asDL_l) ∧ (type_of% @o_bits ∧ type_of% @isDz_d))) ∧ ((type_of% @isDz_t ∧ (type_of% @look_i ∧ type_of% @look_s)) ∧ ((type_of% @look_t ∧ type_of% @o_inL) ∧ (type_of% @o_inT ∧ type_of% @o_eqI)))))) ∧ (((((type_of% @o_neI ∧ (type_of% @o_all ∧ type_of% @o_any)) ∧ (type_of% @o_sum ∧ (type_of% @o_join ∧ type_of% @o_max2))) ∧ ((type_of% @o_min2 ∧ (type_of% @o_eqB ∧ type_of% @o_neB)) ∧ ((type_of% @o_ixD ∧ type_of% @o_ixDi) ∧ (type_of% @p_str ∧ type_of% @p_int)))) ∧ (((type_of% @s_frzD ∧ (type_of% @hasD_md ∧ type_of% @small_md)) ∧ ((type_of% @hasD_mt ∧ type_of% @small_mt) ∧ (type_of% @p_tup ∧ type_of% @frz_mt))) ∧ ((type_of% @atM_mo ∧ (type_of% @atM_fz ∧ type_of% @atD_obj)) ∧ ((type_of% @asF_fz ∧ type_of% @asF_own) ∧ (type_of% @asO_mo ∧ type_of% @putY_fz))))) ∧ ((((type_of% @putY_ml ∧ (type_of% @putY_md ∧ type_of% @putY_mt)) ∧ (type_of% @putY_mo ∧ (type_of% @isOD_obj ∧ type_of% @isID_obj))) ∧ ((type_of% @s_fldM ∧ (type_of% @mAt_mo ∧ type_of% @ownAt_own)) ∧ ((type_of% @s_fldPut ∧ type_of% @putMo_mo) ∧ (type_of% @s_resF ∧ type_of% @keysL_l)))) ∧ (((type_of% @asLs_l ∧ (type_of% @s_xf ∧ type_of% @s_si)) ∧ ((type_of% @s_endR ∧ type_of% @lk_hd) ∧ (type_of% @asZ_f ∧ type_of% @fz_nil))) ∧ ((type_of% @fz_cons ∧ (type_of% @fz_f ∧ type_of% @fz_o)) ∧ ((type_of% @fz_mo ∧ type_of% @len_nil) ∧ (type_of% @len_cons ∧ type_of% @put_nil)))))))) := ⟨⟨⟨⟨⟨⟨⟨@iz_valT, ⟨@iz_valL, @iz_slot⟩⟩, ⟨@iz_mT, ⟨@iz_mL, @z_mkT⟩⟩⟩, ⟨⟨@k_mT, ⟨@k_mL, @z_valT⟩⟩, ⟨⟨@z_valL, @z_slot⟩, ⟨@z_mT, @z_mL⟩⟩⟩⟩, ⟨⟨⟨@o_ixDT, ⟨@o_ixDL, @o_inDT⟩⟩, ⟨@pins_nil, ⟨@pins_p, @pins_v⟩⟩⟩, ⟨⟨@pins_un, ⟨@lent1, @slotL_s⟩⟩, ⟨⟨@s_resV, @s_resS⟩, ⟨@s_resL0, @s_resL1⟩⟩⟩⟩⟩, ⟨⟨⟨⟨@s_slotM, ⟨@s_setM, @s_frz⟩⟩, ⟨@s_frzL, ⟨@wD_some, @got_v⟩⟩⟩, ⟨⟨@got_p, ⟨@vslot_v, @fslot_v⟩⟩, ⟨⟨@asB_b, @asI_i⟩, ⟨@asT_t, @asL_l⟩⟩⟩⟩, ⟨⟨⟨@hasL_l, ⟨@one_1, @two_2⟩⟩, ⟨⟨@int1_1, @int2_2⟩, ⟨@int3_3, @ix0⟩⟩⟩, ⟨⟨@ix1, ⟨@opz_f1, @o_iop⟩⟩, ⟨⟨@b_lt, @o_addI⟩, ⟨@o_addS, @o_addT⟩⟩⟩⟩⟩⟩, ⟨⟨⟨⟨⟨@o_addL, ⟨@o_mulI, @o_mulT⟩⟩, ⟨@o_mulL, ⟨@o_ixL, @o_ixT⟩⟩⟩, ⟨⟨@o_ixW, ⟨@o_ixC, @o_ixS⟩⟩, ⟨⟨@o_slL, @o_slT⟩, ⟨@o_slS, @o_lenL⟩⟩⟩⟩, ⟨⟨⟨@o_lenT, ⟨@o_lenW, @o_lenC⟩⟩, ⟨⟨@o_lenD, @o_lenS⟩, ⟨@o_abs, @o_intI⟩⟩⟩, ⟨⟨@o_intB, ⟨@o_str, @o_list⟩⟩, ⟨⟨@o_tupL, @o_tupT⟩, ⟨@o_isN, @o_isNotN⟩⟩⟩⟩⟩, ⟨⟨⟨⟨@o_isTy, ⟨@o_isiB, @o_isiI⟩⟩, ⟨@o_isiS, ⟨@o_isiN, @o_isiL⟩⟩⟩, ⟨⟨@o_isiT, ⟨@is_NoneType_bool, @is_NoneType_int⟩⟩, ⟨⟨@is_NoneType_str, @is_NoneType_list⟩, ⟨@is_NoneType_tuple, @is_NoneType_dict⟩⟩⟩⟩, ⟨⟨⟨@is_bool_bool, ⟨@is_bool_int, @is_bool_str⟩⟩, ⟨⟨@is_bool_list, @is_bool_tuple⟩, ⟨@is_bool_dict, @is_int_bool⟩⟩⟩, ⟨⟨@is_int_int, ⟨@is_int_str, @is_int_list⟩⟩, ⟨⟨@is_int_tuple, @is_int_dict⟩, ⟨@is_str_bool, @is_str_int⟩⟩⟩⟩⟩⟩⟩, ⟨⟨⟨⟨⟨⟨@is_str_str, ⟨@is_str_list, @is_str_tuple⟩⟩, ⟨@is_str_dict, ⟨@is_list_bool, @is_list_int⟩⟩⟩, ⟨⟨@is_list_str, ⟨@is_list_list, @is_list_tuple⟩⟩, ⟨⟨@is_list_dict, @is_tuple_bool⟩, ⟨@is_tuple_int, @is_tuple_str⟩⟩⟩⟩, ⟨⟨⟨@is_tuple_list, ⟨@is_tuple_tuple, @is_tuple_dict⟩⟩, ⟨@im_bool, ⟨@im_int, @im_str⟩⟩⟩, ⟨⟨@im_list, ⟨@im_tuple, @im_dict⟩⟩, ⟨⟨@o_neg, @t_non⟩, ⟨@t_bl, @t_int⟩⟩⟩⟩⟩, ⟨⟨⟨⟨@t_str, ⟨@t_lst, @t_tup⟩⟩, ⟨@t_wtu, ⟨@t_dic, @i_lst⟩⟩⟩, ⟨⟨@i_tup, ⟨@i_wtu, @i_scr⟩⟩, ⟨⟨@i_str, @q_lst⟩, ⟨@q_scr, @q_tup⟩⟩⟩⟩, ⟨⟨⟨@q_wtu, ⟨@o_sort2, @o_sort2T⟩⟩, ⟨⟨@o_sort2D, @asDL_l⟩, ⟨@o_bits, @isDz_d⟩⟩⟩, ⟨⟨@isDz_t, ⟨@look_i, @look_s⟩⟩, ⟨⟨@look_t, @o_inL⟩, ⟨@o_inT, @o_eqI⟩⟩⟩⟩⟩⟩, ⟨⟨⟨⟨⟨@o_neI, ⟨@o_all, @o_any⟩⟩, ⟨@o_sum, ⟨@o_join, @o_max2⟩⟩⟩, ⟨⟨@o_min2, ⟨@o_eqB, @o_neB⟩⟩, ⟨⟨@o_ixD, @o_ixDi⟩, ⟨@p_str, @p_int⟩⟩⟩⟩, ⟨⟨⟨@s_frzD, ⟨@hasD_md, @small_md⟩⟩, ⟨⟨@hasD_mt, @small_mt⟩, ⟨@p_tup, @frz_mt⟩⟩⟩, ⟨⟨@atM_mo, ⟨@atM_fz, @atD_obj⟩⟩, ⟨⟨@asF_fz, @asF_own⟩, ⟨@asO_mo, @putY_fz⟩⟩⟩⟩⟩, ⟨⟨⟨⟨@putY_ml, ⟨@putY_md, @putY_mt⟩⟩, ⟨@putY_mo, ⟨@isOD_obj, @isID_obj⟩⟩⟩, ⟨⟨@s_fldM, ⟨@mAt_mo, @ownAt_own⟩⟩, ⟨⟨@s_fldPut, @putMo_mo⟩, ⟨@s_resF, @keysL_l⟩⟩⟩⟩, ⟨⟨⟨@asLs_l, ⟨@s_xf, @s_si⟩⟩, ⟨⟨@s_endR, @lk_hd⟩, ⟨@asZ_f, @fz_nil⟩⟩⟩, ⟨⟨@fz_cons, ⟨@fz_f, @fz_o⟩⟩, ⟨⟨@fz_mo, @len_nil⟩, ⟨@len_cons, @put_nil⟩⟩⟩⟩⟩⟩⟩⟩
end DL
namespace DL
theorem qs : (((((type_of% @true_and ∧ type_of% @and_true) ∧ (type_of% @and_assoc ∧ type_of% @Bool.not_true)) ∧ ((type_of% @Bool.not_false ∧ type_of% @Bool.and_true) ∧ (type_of% @Bool.and_self ∧ type_of% @true_or))) ∧ (((type_of% @or_true ∧ type_of% @or_false) ∧ (type_of% @false_or ∧ type_of% @Nat.zero_sub)) ∧ ((type_of% @Nat.sub_zero ∧ type_of% @Nat.sub_self) ∧ (type_of% @List.nil_append.{0} ∧ type_of% @List.cons_append.{0})))) ∧ ((((type_of% @List.append_nil.{0} ∧ type_of% @List.all_cons.{0}) ∧ (type_of% @List.all_nil.{0} ∧ type_of% @Option.getD_some.{0})) ∧ ((type_of% @List.getElem?_cons_zero.{0} ∧ type_of% @List.getElem?_cons_succ.{0}) ∧ (type_of% @List.set_cons_zero.{0} ∧ type_of% @List.set_cons_succ.{0}))) ∧ (((type_of% @List.map_cons.{0, 0} ∧ type_of% @List.map_nil.{0, 0}) ∧ (type_of% @Option.bind_some.{0, 0} ∧ type_of% @Option.map_some.{0, 0})) ∧ ((type_of% @List.length_cons.{0} ∧ type_of% @List.length_nil.{0}) ∧ (type_of% @decide_true ∧ type_of% @decide_false))))) := ⟨⟨⟨⟨⟨@true_and, @and_true⟩, ⟨@and_assoc, @Bool.not_true⟩⟩, ⟨⟨@Bool.not_false, @Bool.and_true⟩, ⟨@Bool.and_self, @true_or⟩⟩⟩, ⟨⟨⟨@or_true, @or_false⟩, ⟨@false_or, @Nat.zero_sub⟩⟩, ⟨⟨@Nat.sub_zero, @Nat.sub_self⟩, ⟨@List.nil_append.{0}, @List.cons_append.{0}⟩⟩⟩⟩, ⟨⟨⟨⟨@List.append_nil.{0}, @List.all_cons.{0}⟩, ⟨@List.all_nil.{0}, @Option.getD_some.{0}⟩⟩, ⟨⟨@List.getElem?_cons_zero.{0}, @List.getElem?_cons_succ.{0}⟩, ⟨@List.set_cons_zero.{0}, @List.set_cons_succ.{0}⟩⟩⟩, ⟨⟨⟨@List.map_cons.{0, 0}, @List.map_nil.{0, 0}⟩, ⟨@Option.bind_some.{0, 0}, @Option.map_some.{0, 0}⟩⟩, ⟨⟨@List.length_cons.{0}, @List.length_nil.{0}⟩, ⟨@decide_true, @decide_false⟩⟩⟩⟩⟩
end DL
namespace Msk
open PySem PySem.Spec L2 DL
abbrev ban := Builtin.bitAnd
abbrev bxr := Builtin.bitXor
abbrev bor := Builtin.bitOr
def sm (m : Int) : Prop := 0 ≤ m ∧ m < 65536
instance (m : Int) : Decidable (sm m) := inferInstanceAs (Decidable (_ ∧ _))
def sv (v : Int) : Prop := 0 ≤ v ∧ v < 16
instance (m : Int) : Decidable (sv m) := inferInstanceAs (Decidable (_ ∧ _))
def bt (m v : Int) : Int := ban (m / 2 ^ v.toNat) 1
def has (m v : Int) : Bool := bt m v == 1
theorem ban_nat (a b : Nat) : ban (a : Int) (b : Int) = ((a &&& b : Nat) : Int) := by
  show Builtin.bitAnd _ _ = _
  unfold Builtin.bitAnd
  simp
theorem bor_nat (a b : Nat) : bor (a : Int) (b : Int) = ((a ||| b : Nat) : Int) := by
  show Builtin.bitOr _ _ = _
  unfold Builtin.bitOr Builtin.bitAnd Builtin.bitNot
  have h1 : decide ((0 : Int) ≤ -(a : Int) - 1) = false := by simp; omega
  have h2 : decide ((0 : Int) ≤ -(b : Int) - 1) = false := by simp; omega
  have e1 : -(-(a : Int) - 1) - 1 = (a : Int) := by omega
  have e2 : -(-(b : Int) - 1) - 1 = (b : Int) := by omega
  rw [h1, h2]
  simp only [e1, e2, Int.toNat_natCast]
  omega
theorem mod2_bit (x : Nat) : x % 2 = (x.testBit 0).toNat := by
  rw [Nat.testBit_zero]
  rcases Nat.mod_two_eq_zero_or_one x with h | h <;> simp [h]
theorem or_xor_and : ∀ a b : Nat, a ||| b = (a ^^^ b) + (a &&& b) := by
  intro a
  induction a using Nat.strongRecOn with
  | ind a ih =>
    intro b
    by_cases h : a = 0
    · subst h; simp
    · have i := ih (a / 2) (by omega) (b / 2)
      have h1 : (a ||| b) / 2 = a / 2 ||| b / 2 := Nat.or_div_two
      have h2 : (a ^^^ b) / 2 = a / 2 ^^^ b / 2 := Nat.xor_div_two
      have h3 : (a &&& b) / 2 = a / 2 &&& b / 2 := Nat.and_div_two
      have k1 := mod2_bit (a ||| b)
      have k2 := mod2_bit (a ^^^ b)
      have k3 := mod2_bit (a &&& b)
      rw [Nat.testBit_or] at k1
      rw [Nat.testBit_xor] at k2
      rw [Nat.testBit_and] at k3
      cases e1 : a.testBit 0 <;> cases e2 : b.testBit 0 <;> rw [e1, e2] at k1 k2 k3
      · have q1 : (a ||| b) % 2 = 0 := k1
        have q2 : (a ^^^ b) % 2 = 0 := k2
        have q3 : (a &&& b) % 2 = 0 := k3
        omega
      · have q1 : (a ||| b) % 2 = 1 := k1
        have q2 : (a ^^^ b) % 2 = 1 := k2
        have q3 : (a &&& b) % 2 = 0 := k3
        omega
      · have q1 : (a ||| b) % 2 = 1 := k1
        have q2 : (a ^^^ b) % 2 = 1 := k2
        have q3 : (a &&& b) % 2 = 0 := k3
        omega
      · have q1 : (a ||| b) % 2 = 1 := k1
        have q2 : (a ^^^ b) % 2 = 0 := k2
        have q3 : (a &&& b) % 2 = 1 := k3
        omega
theorem bxr_nat (a b : Nat) : bxr (a : Int) (b : Int) = ((a ^^^ b : Nat) : Int) := by
  show bor (a : Int) b - ban (a : Int) b = _
  rw [bor_nat, ban_nat]
  have := or_xor_and a b
  omega
theorem sm_nat {m : Int} (h : sm m) : ∃ k : Nat, m = (k : Int) ∧ k < 2 ^ 16 := ⟨m.toNat, by have := h.1; omega, by have := h.1; have := h.2; omega⟩
theorem sv_nat {m : Int} (h : sv m) : ∃ k : Nat, m = (k : Int) ∧ k < 16 := ⟨m.toNat, by have := h.1; omega, by have := h.1; have := h.2; omega⟩
theorem bt_nat (a k : Nat) : bt (a : Int) (k : Int) = ((a.testBit k).toNat : Int) := by
  unfold bt
  have e : (a : Int) / 2 ^ ((k : Int)).toNat = ((a / 2 ^ k : Nat) : Int) := by
    rw [Int.toNat_natCast]
    exact (Int.natCast_ediv a (2 ^ k)).symm ▸ by simp
  rw [e, show (1 : Int) = ((1 : Nat) : Int) from rfl, ban_nat, Nat.and_one_is_mod, Nat.testBit_eq_decide_div_mod_eq]
  have := Nat.mod_two_eq_zero_or_one (a / 2 ^ k)
  rcases this with h | h <;> simp [h]
theorem has_nat (a k : Nat) : has (a : Int) (k : Int) = a.testBit k := by
  unfold has
  rw [bt_nat]
  cases a.testBit k <;> rfl
section
variable {m w v : Int}
theorem ban_sm (h : sm m) (k : sm w) : sm (ban m w) := by
  obtain ⟨a, rfl, ha⟩ := sm_nat h
  obtain ⟨b, rfl, hb⟩ := sm_nat k
  rw [ban_nat]
  have : a &&& b ≤ a := Nat.and_le_left
  exact ⟨by omega, by omega⟩
theorem bxr_sm (h : sm m) (k : sm w) : sm (bxr m (ban m w)) := by
  obtain ⟨a, rfl, ha⟩ := sm_nat h
  obtain ⟨b, rfl, hb⟩ := sm_nat k
  rw [ban_nat, bxr_nat]
  have h1 : a &&& b ≤ a := Nat.and_le_left
  have := Nat.xor_lt_two_pow ha (Nat.lt_of_le_of_lt h1 ha)
  exact ⟨by omega, by omega⟩
theorem bt_01 (h : sm m) (k : sv v) : bt m v = 0 ∨ bt m v = 1 := by
  obtain ⟨a, rfl, ha⟩ := sm_nat h
  obtain ⟨b, rfl, hb⟩ := sv_nat k
  rw [bt_nat]
  cases a.testBit b <;> simp
theorem has_ban (h : sm m) (k : sm w) (q : sv v) : has (ban m w) v = (has m v && has w v) := by
  obtain ⟨a, rfl, ha⟩ := sm_nat h
  obtain ⟨b, rfl, hb⟩ := sm_nat k
  obtain ⟨c, rfl, hc⟩ := sv_nat q
  rw [ban_nat, has_nat, has_nat, has_nat, Nat.testBit_and]
theorem has_bxr (h : sm m) (k : sm w) (q : sv v) : has (bxr m (ban m w)) v = (has m v && !has w v) := by
  obtain ⟨a, rfl, ha⟩ := sm_nat h
  obtain ⟨b, rfl, hb⟩ := sm_nat k
  obtain ⟨c, rfl, hc⟩ := sv_nat q
  rw [ban_nat, bxr_nat, has_nat, has_nat, has_nat, Nat.testBit_xor, Nat.testBit_and]
  cases a.testBit c <;> cases b.testBit c <;> rfl
theorem has_zero (q : sv v) : has 0 v = false := by
  obtain ⟨c, rfl, hc⟩ := sv_nat q
  rw [show (0 : Int) = ((0 : Nat) : Int) from rfl, has_nat]
  simp
theorem has_some (h : sm m) (k : m ≠ 0) : ∃ v, sv v ∧ has m v = true := by
  obtain ⟨a, rfl, ha⟩ := sm_nat h
  obtain ⟨i, hi⟩ := Nat.exists_testBit_of_ne_zero (x := a) (by omega)
  have hlt : i < 16 := by
    rcases Nat.lt_or_ge i 16 with q | q
    · exact q
    · have : a.testBit i = false := Nat.testBit_lt_two_pow (Nat.lt_of_lt_of_le ha (Nat.pow_le_pow_right (by decide) q))
      rw [hi] at this; cases this
  exact ⟨(i : Int), ⟨by omega, by omega⟩, by rw [has_nat]; exact hi⟩
theorem has_full {z : Int} (hz : 0 ≤ z) (h16 : z ≤ 16) (q : sv v) : has (1 * 2 ^ z.toNat - 1) v = decide (v < z) := by
  obtain ⟨c, rfl, hc⟩ := sv_nat q
  have e : (1 : Int) * 2 ^ z.toNat - 1 = ((2 ^ z.toNat - 1 : Nat) : Int) := by
    have := Nat.two_pow_pos z.toNat
    rw [Int.natCast_sub (by omega)]
    simp
  rw [e, has_nat, Nat.testBit_two_pow_sub_one]
  rw [decide_eq_decide]
  omega
theorem has_one {u : Int} (hu : sv u) (q : sv v) : has (1 * 2 ^ u.toNat) v = decide (v = u) := by
  obtain ⟨c, rfl, hc⟩ := sv_nat q
  obtain ⟨d, rfl, hd⟩ := sv_nat hu
  have e : (1 : Int) * 2 ^ ((d : Int)).toNat = ((2 ^ d : Nat) : Int) := by simp
  rw [e, has_nat, Nat.testBit_two_pow, decide_eq_decide]
  omega
end
def bits (m : Int) : List Int := ((List.range 16).map fun (i : Nat) => (i : Int)).filter fun v => has m v
def step (acc : List (List Int)) (m : Int) : List (List Int) := acc.flatMap fun d => (bits m).map fun v => d ++ [v]
def inS : List Int → List Int → Bool
  | [], [] => true
  | m :: a, v :: x => (decide (0 ≤ v) && decide (v < 16) && has m v) && inS a x
  | _, _ => false
def meetL (a b : List Int) : List Int := List.zipWith ban a b
def splitR : List Int → List Int → List (List Int)
  | m :: a, w :: b => (if bxr m (ban m w) = 0 then [] else [bxr m (ban m w) :: a]) ++ (splitR a b).map fun p => ban m w :: p
  | _, _ => []
def split (a b : List Int) : List (List Int) := if 0 ∈ meetL a b then [a] else splitR a b
def sks (a : List Int) : Prop := ∀ m ∈ a, sm m
theorem splitR_ok : ∀ {a b : List Int}, sks a → sks b → a.length = b.length → ∀ p ∈ splitR a b, sks p ∧ p.length = b.length
  | [], [], _, _, _ => by simp [splitR]
  | [], _ :: _, _, _, e => by simp at e
  | _ :: _, [], _, _, e => by simp at e
  | m :: a, w :: b, ha, hb, e => by
    intro p hp
    simp only [splitR, List.mem_append, List.mem_map] at hp
    have hm := ha m (by simp)
    have hw := hb w (by simp)
    have ha' : sks a := fun c hc => ha c (by simp [hc])
    have hb' : sks b := fun c hc => hb c (by simp [hc])
    have e' : a.length = b.length := by simpa using e
    rcases hp with hp | ⟨q, hq, rfl⟩
    · by_cases hz : bxr m (ban m w) = 0
      · rw [if_pos hz] at hp; simp at hp
      · rw [if_neg hz] at hp
        simp at hp
        subst hp
        refine ⟨fun c hc => ?_, by simpa using e'⟩
        rcases List.mem_cons.mp hc with rfl | hc
        · exact bxr_sm hm hw
        · exact ha' c hc
    · obtain ⟨h1, h2⟩ := splitR_ok ha' hb' e' q hq
      refine ⟨fun c hc => ?_, by simpa using h2⟩
      rcases List.mem_cons.mp hc with rfl | hc
      · exact ban_sm hm hw
      · exact h1 c hc
theorem split_ok {a b : List Int} (ha : sks a) (hb : sks b) (e : a.length = b.length) : ∀ p ∈ split a b, sks p ∧ p.length = b.length := by
  unfold split
  intro p hp
  by_cases h : 0 ∈ meetL a b
  · rw [if_pos h] at hp
    simp at hp
    subst hp
    exact ⟨ha, e⟩
  · rw [if_neg h] at hp
    exact splitR_ok ha hb e p hp
theorem countP_splitR : ∀ {a b : List Int} (x : List Int), sks a → sks b → a.length = b.length → (splitR a b).countP (fun p => inS p x) = if inS a x = true ∧ inS b x = false then 1 else 0
  | [], [], x, _, _, _ => by cases x <;> simp [splitR, inS]
  | [], _ :: _, _, _, _, e => by simp at e
  | _ :: _, [], _, _, _, e => by simp at e
  | m :: a, w :: b, x, ha, hb, e => by
    have hm := ha m (by simp)
    have hw := hb w (by simp)
    have ha' : sks a := fun c hc => ha c (by simp [hc])
    have hb' : sks b := fun c hc => hb c (by simp [hc])
    have e' : a.length = b.length := by simpa using e
    cases x with
    | nil =>
      have h0 : ∀ l : List (List Int), (∀ p ∈ l, p ≠ []) → l.countP (fun p => inS p []) = 0 := fun l hl => List.countP_eq_zero.mpr fun p hp => by
        cases p with
        | nil => exact absurd rfl (hl _ hp)
        | cons _ _ => simp [inS]
      rw [h0]
      · simp [inS]
      · intro p hp q
        subst q
        simp only [splitR, List.mem_append, List.mem_map] at hp
        rcases hp with hp | ⟨_, _, q⟩
        · by_cases hz : bxr m (ban m w) = 0
          · rw [if_pos hz] at hp; simp at hp
          · rw [if_neg hz] at hp; simp at hp
        · cases q
    | cons v x =>
      have ih := countP_splitR x ha' hb' e'
      simp only [splitR, List.countP_append, List.countP_map]
      by_cases hv : sv v
      · have hv1 : (decide (0 ≤ v) && decide (v < 16)) = true := by simp [hv.1, hv.2]
        have t1 : (if bxr m (ban m w) = 0 then [] else [bxr m (ban m w) :: a]).countP (fun p => inS p (v :: x)) = if (has m v && !has w v && inS a x) = true then 1 else 0 := by
          by_cases hz : bxr m (ban m w) = 0
          · rw [if_pos hz]
            have hb1 := has_bxr hm hw hv
            rw [hz, has_zero hv] at hb1
            rw [← hb1]
            rfl
          · rw [if_neg hz]
            simp only [List.countP_cons, List.countP_nil, inS, hv1, Bool.true_and, has_bxr hm hw hv, Nat.zero_add]
        have t2 : (splitR a b).countP ((fun p => inS p (v :: x)) ∘ fun p => ban m w :: p) = if (has m v && has w v) = true then (splitR a b).countP (fun p => inS p x) else 0 := by
          have : ((fun p => inS p (v :: x)) ∘ fun p => ban m w :: p) = fun p => (has m v && has w v) && inS p x := by
            funext p
            simp only [Function.comp, inS, hv1, Bool.true_and, has_ban hm hw hv]
          rw [this]
          cases (has m v && has w v) <;> simp
        rw [t1, t2, ih]
        simp only [inS, hv1, Bool.true_and]
        cases has m v <;> cases has w v <;> cases inS a x <;> cases inS b x <;> simp
      · have hv1 : (decide (0 ≤ v) && decide (v < 16)) = false := by
          by_cases h1 : 0 ≤ v
          · have : ¬ v < 16 := fun h2 => hv ⟨h1, h2⟩
            simp [this]
          · simp [h1]
        have z : ∀ (l : List (List Int)), l.countP (fun p => inS p (v :: x)) = 0 := fun l => List.countP_eq_zero.mpr fun p _ => by
          cases p with
          | nil => simp [inS]
          | cons c p => simp [inS, hv1]
        have z2 : (splitR a b).countP ((fun p => inS p (v :: x)) ∘ fun p => ban m w :: p) = 0 := List.countP_eq_zero.mpr fun p _ => by simp [inS, hv1]
        rw [z, z2]
        simp [inS, hv1]
theorem meet_out : ∀ {a b x : List Int}, sks a → sks b → a.length = b.length → 0 ∈ meetL a b → inS a x = true → inS b x = false
  | [], [], _, _, _, _, h => by simp [meetL] at h
  | [], _ :: _, _, _, _, e, _ => by simp at e
  | _ :: _, [], _, _, _, e, _ => by simp at e
  | m :: a, w :: b, [], _, _, _, _ => by simp [inS]
  | m :: a, w :: b, v :: x, ha, hb, e, h => by
    intro hi
    have hm := ha m (by simp)
    have hw := hb w (by simp)
    have ha' : sks a := fun c hc => ha c (by simp [hc])
    have hb' : sks b := fun c hc => hb c (by simp [hc])
    have e' : a.length = b.length := by simpa using e
    simp only [inS, Bool.and_eq_true, decide_eq_true_eq] at hi
    obtain ⟨⟨⟨v1, v2⟩, hmv⟩, hax⟩ := hi
    have h' : ban m w = 0 ∨ 0 ∈ meetL a b := by
      have : 0 ∈ ban m w :: meetL a b := h
      rcases List.mem_cons.mp this with q | q
      · exact .inl q.symm
      · exact .inr q
    rcases h' with h' | h'
    · have := has_ban hm hw (v := v) ⟨v1, v2⟩
      rw [h', has_zero ⟨v1, v2⟩, hmv] at this
      simp only [inS]
      simp at this
      rw [this]
      simp
    · have := meet_out ha' hb' e' h' hax
      simp [inS, this]
theorem countP_split {a b : List Int} (x : List Int) (ha : sks a) (hb : sks b) (e : a.length = b.length) : (split a b).countP (fun p => inS p x) = if inS a x = true ∧ inS b x = false then 1 else 0 := by
  unfold split
  by_cases h : 0 ∈ meetL a b
  · rw [if_pos h]
    simp only [List.countP_cons, List.countP_nil, Nat.zero_add]
    by_cases hi : inS a x = true
    · rw [if_pos hi, if_pos ⟨hi, meet_out ha hb e h hi⟩]
    · rw [if_neg hi, if_neg fun q => hi q.1]
  · rw [if_neg h, countP_splitR x ha hb e]
def wstep (parts : List (List Int)) (b : List Int) : List (List Int) := parts.flatMap fun p => split p b
def wout (a : List Int) (piece : List (List Int)) : List (List Int) := piece.foldl wstep [a]
theorem wstep_ok {n : Nat} {parts : List (List Int)} {b : List Int} (hp : ∀ p ∈ parts, sks p ∧ p.length = n) (hb : sks b) (e : b.length = n) : ∀ p ∈ wstep parts b, sks p ∧ p.length = n := by
  intro p h
  obtain ⟨q, hq, h⟩ := List.mem_flatMap.mp h
  have := split_ok (hp q hq).1 hb ((hp q hq).2.trans e.symm) p h
  exact ⟨this.1, this.2.trans e⟩
theorem countP_wstep {n : Nat} {b : List Int} (x : List Int) (hb : sks b) (e : b.length = n) : ∀ {parts : List (List Int)}, (∀ p ∈ parts, sks p ∧ p.length = n) → (wstep parts b).countP (fun p => inS p x) = if inS b x = true then 0 else parts.countP (fun p => inS p x)
  | [], _ => by simp [wstep]
  | p :: parts, h => by
    have ih := countP_wstep x hb e (parts := parts) fun q hq => h q (by simp [hq])
    have hp := h p (by simp)
    unfold wstep at ih ⊢
    rw [List.flatMap_cons, List.countP_append, ih, countP_split x hp.1 hb (hp.2.trans e.symm), List.countP_cons]
    cases inS p x <;> cases inS b x <;> simp <;> omega
theorem countP_wout {n : Nat} (x : List Int) : ∀ {piece parts : List (List Int)}, (∀ p ∈ parts, sks p ∧ p.length = n) → (∀ b ∈ piece, sks b ∧ b.length = n) → (piece.foldl wstep parts).countP (fun p => inS p x) = if (piece.any fun b => inS b x) = true then 0 else parts.countP (fun p => inS p x)
  | [], parts, h, _ => by simp
  | b :: piece, parts, h, k => by
    have hb := k b (by simp)
    rw [List.foldl_cons, countP_wout x (wstep_ok h hb.1 hb.2) fun c hc => k c (by simp [hc]), countP_wstep x hb.1 hb.2 h, List.any_cons]
    cases inS b x <;> cases (piece.any fun b => inS b x) <;> simp
end Msk
namespace Tel
open PySem PySem.Spec L2 DL Msk
inductive Src where
  | set (v : Int)
  | copy (n : Nat)
  deriving DecidableEq
structure Deed where
  nm : Str
  g : List (Nat × Int)
  c : List (Nat × Src)
structure Mach where
  cells : List (Str × Int)
  ds : List Deed
  fi : List Int
def Mach.sz (M : Mach) : List Int := M.cells.map (·.2)
abbrev gi (l : List Int) (i : Nat) : Int := l.getD i 0
theorem gi_set {l : List Int} {i j : Nat} {a : Int} (h : i < l.length) : gi (l.set i a) j = if i = j then a else gi l j := by
  unfold gi
  rw [List.getD_eq_getElem?_getD, List.getD_eq_getElem?_getD, List.getElem?_set]
  by_cases e : i = j
  · subst e; simp [h]
  · simp [e]
theorem gi_get {l : List Int} {i : Nat} (h : i < l.length) : l[i]? = some (gi l i) := by
  unfold gi
  rw [List.getD_eq_getElem?_getD, List.getElem?_eq_getElem h]
  rfl
theorem gi_of {l : List Int} {i : Nat} {v : Int} (h : l[i]? = some v) : gi l i = v := by
  unfold gi
  rw [List.getD_eq_getElem?_getD, h]
  rfl
def wfS (sz : List Int) : Prop := (1 ≤ sz.length ∧ sz.length ≤ 24) ∧ ∀ i, i < sz.length → 1 ≤ gi sz i ∧ gi sz i ≤ 16
def fullM (z : Int) : Int := 1 * 2 ^ z.toNat - 1
def mk (z m : Int) : Prop := 0 < m ∧ m < 2 ^ z.toNat
def wfG (sz : List Int) (g : List (Nat × Int)) : Prop := (g.map (·.1)).Pairwise (· < ·) ∧ ∀ p ∈ g, p.1 < sz.length ∧ mk (gi sz p.1) p.2
def wfC (sz : List Int) (c : List (Nat × Src)) : Prop := (c.map (·.1)).Pairwise (· < ·) ∧ ∀ p ∈ c, p.1 < sz.length ∧ match p.2 with
  | .set v => 0 ≤ v ∧ v < gi sz p.1
  | .copy n => n < sz.length ∧ gi sz n ≤ gi sz p.1
def wfD (sz : List Int) (d : Deed) : Prop := wfG sz d.g ∧ wfC sz d.c
def sk (sz S : List Int) : Prop := S.length = sz.length ∧ ∀ i, i < sz.length → mk (gi sz i) (gi S i)
def dk (sz x : List Int) : Prop := x.length = sz.length ∧ ∀ i, i < sz.length → 0 ≤ gi x i ∧ gi x i < gi sz i
structure Mach.wf (M : Mach) : Prop where
  sz : wfS M.sz
  ds : ∀ d ∈ M.ds, wfD M.sz d
  fi : sk M.sz M.fi
theorem mk_sm {z m : Int} (h1 : z ≤ 16) (h : mk z m) : sm m := by
  refine ⟨by have := h.1; omega, ?_⟩
  have h2 := h.2
  have : (2 : Int) ^ z.toNat ≤ 2 ^ 16 := by
    have := Nat.pow_le_pow_right (n := 2) (by decide) (show z.toNat ≤ 16 by omega)
    exact_mod_cast this
  omega
theorem mk_has {z m v : Int} (h0 : 0 ≤ z) (h1 : z ≤ 16) (h : mk z m) (hv : sv v) (hh : has m v = true) : v < z := by
  obtain ⟨a, rfl, ha⟩ := sm_nat (mk_sm h1 h)
  obtain ⟨c, rfl, hc⟩ := sv_nat hv
  rw [has_nat] at hh
  have h2 := h.2
  have e : (2 : Int) ^ z.toNat = ((2 ^ z.toNat : Nat) : Int) := by simp
  rw [e] at h2
  have h2 : a < 2 ^ z.toNat := by omega
  rcases Nat.lt_or_ge c z.toNat with q | q
  · omega
  · have := Nat.testBit_lt_two_pow (Nat.lt_of_lt_of_le h2 (Nat.pow_le_pow_right (by decide) q))
    rw [hh] at this; cases this
theorem fullM_mk {z : Int} (h : 1 ≤ z) : mk z (fullM z) := by
  unfold mk fullM
  have : (2 : Int) ^ z.toNat = ((2 ^ z.toNat : Nat) : Int) := by simp
  have h2 : 2 ≤ 2 ^ z.toNat := by
    have := Nat.pow_le_pow_right (n := 2) (by decide) (show 1 ≤ z.toNat by omega)
    simpa using this
  rw [this]
  omega
theorem mk_ban {z m w : Int} (h1 : z ≤ 16) (h : mk z m) (hw : sm w) (hn : ban m w ≠ 0) : mk z (ban m w) := by
  obtain ⟨a, rfl, ha⟩ := sm_nat (mk_sm h1 h)
  obtain ⟨b, rfl, hb⟩ := sm_nat hw
  have h2 := h.2
  rw [ban_nat] at hn ⊢
  have : a &&& b ≤ a := Nat.and_le_left
  exact ⟨by omega, by omega⟩
theorem inS_iff : ∀ {S x : List Int}, inS S x = true ↔ S.length = x.length ∧ ∀ i, i < S.length → sv (gi x i) ∧ has (gi S i) (gi x i) = true
  | [], [] => by simp [inS]
  | [], _ :: _ => by simp [inS]
  | _ :: _, [] => by simp [inS]
  | m :: S, v :: x => by
    simp only [inS, Bool.and_eq_true, decide_eq_true_eq]
    rw [inS_iff (S := S) (x := x)]
    constructor
    · rintro ⟨⟨⟨h1, h2⟩, h3⟩, h4, h5⟩
      refine ⟨by simp [h4], fun i hi => ?_⟩
      cases i with
      | zero => exact ⟨⟨h1, h2⟩, h3⟩
      | succ i => exact h5 i (by simpa using hi)
    · rintro ⟨h1, h2⟩
      have h0 := h2 0 (by simp)
      exact ⟨⟨⟨h0.1.1, h0.1.2⟩, h0.2⟩, by simpa using h1, fun i hi => h2 (i + 1) (by simpa using hi)⟩
theorem sk_sks {sz S : List Int} (hz : wfS sz) (h : sk sz S) : sks S := by
  intro m hm
  obtain ⟨i, hi, rfl⟩ := List.getElem_of_mem hm
  have hl := h.1
  have := mk_sm (hz.2 i (by omega)).2 (h.2 i (by omega))
  rwa [gi_of (List.getElem?_eq_getElem hi)] at this
theorem sk_in {sz S x : List Int} (hz : wfS sz) (h : sk sz S) (hi : inS S x = true) : dk sz x := by
  obtain ⟨h1, h2⟩ := inS_iff.mp hi
  have hl := h.1
  refine ⟨by omega, fun i hi => ?_⟩
  obtain ⟨h3, h4⟩ := h2 i (by omega)
  have h5 := hz.2 i hi
  exact ⟨h3.1, mk_has (by omega) h5.2 (h.2 i hi) h3 h4⟩
theorem dk_sv {sz x : List Int} (hz : wfS sz) (h : dk sz x) {i : Nat} (hi : i < sz.length) : sv (gi x i) := by
  have h1 := h.2 i hi
  have h2 := hz.2 i hi
  exact ⟨h1.1, by omega⟩
theorem sk_some {sz S : List Int} (hz : wfS sz) (h : sk sz S) : ∃ x, inS S x = true := by
  have hs := sk_sks hz h
  have hn : ∀ m ∈ S, m ≠ 0 := fun m hm => by
    obtain ⟨i, hi, rfl⟩ := List.getElem_of_mem hm
    have hl := h.1
    have := (h.2 i (by omega)).1
    rw [gi_of (List.getElem?_eq_getElem hi)] at this
    omega
  clear h hz
  induction S with
  | nil => exact ⟨[], rfl⟩
  | cons m S ih =>
    obtain ⟨x, hx⟩ := ih (fun c hc => hs c (by simp [hc])) fun c hc => hn c (by simp [hc])
    obtain ⟨v, hv, hh⟩ := has_some (hs m (by simp)) (hn m (by simp))
    refine ⟨v :: x, ?_⟩
    simp only [inS, Bool.and_eq_true, decide_eq_true_eq]
    exact ⟨⟨hv, hh⟩, hx⟩
def can (d : Deed) (x : List Int) : Bool := d.g.all fun p => has p.2 (gi x p.1)
def srcV (x : List Int) : Src → Int
  | .set v => v
  | .copy n => gi x n
def aft (d : Deed) (x : List Int) : List Int := d.c.foldl (fun vs p => vs.set p.1 (srcV x p.2)) x
theorem foldl_set_get {x : List Int} (f : Nat × Src → Int) : ∀ (c : List (Nat × Src)) (vs : List Int), (c.map (·.1)).Pairwise (· < ·) → (∀ p ∈ c, p.1 < vs.length) → ((c.foldl (fun vs p => vs.set p.1 (f p)) vs).length = vs.length) ∧ (∀ p ∈ c, gi (c.foldl (fun vs p => vs.set p.1 (f p)) vs) p.1 = f p) ∧ ∀ i, (∀ p ∈ c, p.1 ≠ i) → gi (c.foldl (fun vs p => vs.set p.1 (f p)) vs) i = gi vs i
  | [], vs, _, _ => ⟨rfl, by simp, fun _ _ => rfl⟩
  | p :: c, vs, ha, hb => by
    rw [List.map_cons, List.pairwise_cons] at ha
    have hp := hb p (by simp)
    obtain ⟨h1, h2, h3⟩ := foldl_set_get (x := x) f c (vs.set p.1 (f p)) ha.2 fun q hq => by simpa using hb q (by simp [hq])
    refine ⟨by simpa using h1, fun q hq => ?_, fun i hi => ?_⟩
    · rcases List.mem_cons.mp hq with rfl | hq
      · have e := h3 q.1 fun r hr => by
          have := ha.1 r.1 (List.mem_map.mpr ⟨r, hr, rfl⟩)
          omega
        rw [List.foldl_cons, e, gi_set hp, if_pos rfl]
      · exact h2 q hq
    · rw [List.foldl_cons, h3 i fun r hr => hi r (by simp [hr]), gi_set hp, if_neg (hi p (by simp))]
theorem aft_len {sz x : List Int} {d : Deed} (hd : wfD sz d) (hx : x.length = sz.length) : (aft d x).length = x.length := by
  exact (foldl_set_get (x := x) (fun p => srcV x p.2) d.c x hd.2.1 fun p hp => by rw [hx]; exact (hd.2.2 p hp).1).1
theorem aft_at {sz x : List Int} {d : Deed} (hd : wfD sz d) (hx : x.length = sz.length) {p : Nat × Src} (hp : p ∈ d.c) : gi (aft d x) p.1 = srcV x p.2 :=
  (foldl_set_get (x := x) (fun p => srcV x p.2) d.c x hd.2.1 fun p hp => by rw [hx]; exact (hd.2.2 p hp).1).2.1 p hp
theorem aft_no {sz x : List Int} {d : Deed} (hd : wfD sz d) (hx : x.length = sz.length) {i : Nat} (hi : ∀ p ∈ d.c, p.1 ≠ i) : gi (aft d x) i = gi x i :=
  (foldl_set_get (x := x) (fun p => srcV x p.2) d.c x hd.2.1 fun p hp => by rw [hx]; exact (hd.2.2 p hp).1).2.2 i hi
theorem aft_dk {sz x : List Int} {d : Deed} (hz : wfS sz) (hd : wfD sz d) (hx : dk sz x) : dk sz (aft d x) := by
  refine ⟨(aft_len hd hx.1).trans hx.1, fun i hi => ?_⟩
  by_cases h : ∃ p ∈ d.c, p.1 = i
  · obtain ⟨p, hp, rfl⟩ := h
    rw [aft_at hd hx.1 hp]
    have := (hd.2.2 p hp).2
    obtain ⟨c, s⟩ := p
    cases s with
    | set v => exact this
    | copy n =>
      have h2 := hx.2 n this.1
      exact ⟨h2.1, Int.lt_of_lt_of_le h2.2 this.2⟩
  · rw [aft_no hd hx.1 fun p hp e => h ⟨p, hp, e⟩]
    exact hx.2 i hi
def bef1 (sz : List Int) (d : Deed) (S : List Int) : List Int := d.c.foldl (fun ms p => ms.set p.1 (fullM (gi sz p.1))) S
def bstep (S : List Int) (o : Option (List Int)) (p : Nat × Src) : Option (List Int) := match o with
  | none => none
  | some ms => match p.2 with
    | .set v => if has (gi S p.1) v = true then some ms else none
    | .copy n => some (ms.set n (ban (gi ms n) (gi S p.1)))
def bef2 (d : Deed) (S ms : List Int) : Option (List Int) := d.c.foldl (bstep S) (some ms)
def gstep (ms : List Int) (p : Nat × Int) : List Int := ms.set p.1 (ban (gi ms p.1) p.2)
def bef3 (d : Deed) (ms : List Int) : List Int := d.g.foldl gstep ms
def bef (sz : List Int) (d : Deed) (S : List Int) : Option (List Int) := match bef2 d S (bef1 sz d S) with
  | none => none
  | some ms => if 0 ∈ bef3 d ms then none else some (bef3 d ms)
def mz (sz ms : List Int) : Prop := ms.length = sz.length ∧ ∀ i, i < sz.length → 0 ≤ gi ms i ∧ gi ms i < 2 ^ (gi sz i).toNat
theorem sk_mz {sz S : List Int} (h : sk sz S) : mz sz S := ⟨h.1, fun i hi => ⟨by have := (h.2 i hi).1; omega, (h.2 i hi).2⟩⟩
theorem mz_sm {sz ms : List Int} (hz : wfS sz) (h : mz sz ms) {i : Nat} (hi : i < sz.length) : sm (gi ms i) := by
  have h1 := h.2 i hi
  have h2 := (hz.2 i hi).2
  refine ⟨h1.1, ?_⟩
  have : (2 : Int) ^ (gi sz i).toNat ≤ 2 ^ 16 := by
    have := Nat.pow_le_pow_right (n := 2) (by decide) (show (gi sz i).toNat ≤ 16 by omega)
    exact_mod_cast this
  omega
theorem mz_set {sz ms : List Int} (h : mz sz ms) {i : Nat} (hi : i < sz.length) {a : Int} (h0 : 0 ≤ a) (h1 : a < 2 ^ (gi sz i).toNat) : mz sz (ms.set i a) := by
  refine ⟨by simpa using h.1, fun j hj => ?_⟩
  rw [gi_set (by rw [h.1]; exact hi)]
  split
  · rename_i e; subst e; exact ⟨h0, h1⟩
  · exact h.2 j hj
theorem mz_ban {sz ms : List Int} (hz : wfS sz) (h : mz sz ms) {i : Nat} (hi : i < sz.length) {w : Int} (hw : sm w) : mz sz (ms.set i (ban (gi ms i) w)) := by
  have h1 := h.2 i hi
  obtain ⟨a, ea, ha⟩ := sm_nat (mz_sm hz h hi)
  obtain ⟨b, rfl, hb⟩ := sm_nat hw
  refine mz_set h hi ?_ ?_
  · rw [ea, ban_nat]; omega
  · rw [ea, ban_nat]
    have : a &&& b ≤ a := Nat.and_le_left
    rw [ea] at h1
    omega
theorem bef1_mz {sz S : List Int} {d : Deed} (hz : wfS sz) (hd : wfD sz d) (hS : mz sz S) : mz sz (bef1 sz d S) := by
  unfold bef1
  have : ∀ (c : List (Nat × Src)) (ms : List Int), (∀ p ∈ c, p.1 < sz.length) → mz sz ms → mz sz (c.foldl (fun ms p => ms.set p.1 (fullM (gi sz p.1))) ms) := by
    intro c
    induction c with
    | nil => intro ms _ h; exact h
    | cons p c ih =>
      intro ms hc h
      have hp := hc p (by simp)
      have hf := fullM_mk (hz.2 p.1 hp).1
      exact ih _ (fun q hq => hc q (by simp [hq])) (mz_set h hp (by have := hf.1; omega) hf.2)
  exact this d.c S (fun p hp => (hd.2.2 p hp).1) hS
def pin (n : Nat) (ms x : List Int) : Prop := ∀ i, i < n → has (gi ms i) (gi x i) = true
theorem pin_ban {sz ms x : List Int} (hz : wfS sz) (h : mz sz ms) (hx : dk sz x) {i : Nat} (hi : i < sz.length) {w : Int} (hw : sm w) : pin sz.length (ms.set i (ban (gi ms i) w)) x ↔ pin sz.length ms x ∧ has w (gi x i) = true := by
  have hs := mz_sm hz h hi
  have hv := dk_sv hz hx hi
  have key := has_ban hs hw hv
  constructor
  · intro q
    have qi := q i hi
    rw [gi_set (by rw [h.1]; exact hi), if_pos rfl, key, Bool.and_eq_true] at qi
    refine ⟨fun j hj => ?_, qi.2⟩
    by_cases e : i = j
    · subst e; exact qi.1
    · have := q j hj
      rwa [gi_set (by rw [h.1]; exact hi), if_neg e] at this
  · rintro ⟨q, qw⟩ j hj
    rw [gi_set (by rw [h.1]; exact hi)]
    split
    · rename_i e; subst e
      rw [key, q i hi, qw]; rfl
    · exact q j hj
theorem bef3_ok {sz x : List Int} (hz : wfS sz) (hx : dk sz x) : ∀ (g : List (Nat × Int)) (ms : List Int), (∀ p ∈ g, p.1 < sz.length ∧ mk (gi sz p.1) p.2) → mz sz ms → mz sz (g.foldl gstep ms) ∧ (pin sz.length (g.foldl gstep ms) x ↔ pin sz.length ms x ∧ (g.all fun p => has p.2 (gi x p.1)) = true)
  | [], ms, _, h => ⟨h, by simp⟩
  | p :: g, ms, hg, h => by
    have hp := hg p (by simp)
    have hw := mk_sm (hz.2 p.1 hp.1).2 hp.2
    have h' := mz_ban hz h hp.1 hw
    obtain ⟨h1, h2⟩ := bef3_ok hz hx g (gstep ms p) (fun q hq => hg q (by simp [hq])) h'
    refine ⟨h1, ?_⟩
    rw [List.foldl_cons, h2, List.all_cons, Bool.and_eq_true]
    unfold gstep
    rw [pin_ban hz h hx hp.1 hw]
    constructor
    · rintro ⟨⟨a, b⟩, c⟩; exact ⟨a, b, c⟩
    · rintro ⟨a, b, c⟩; exact ⟨⟨a, b⟩, c⟩
def chOk (S x : List Int) (p : Nat × Src) : Prop := has (gi S p.1) (srcV x p.2) = true
theorem foldl_none {S : List Int} : ∀ c : List (Nat × Src), c.foldl (bstep S) none = none
  | [] => rfl
  | p :: c => by rw [List.foldl_cons]; exact foldl_none c
theorem bef2_ok {sz S x : List Int} (hz : wfS sz) (hS : mz sz S) (hx : dk sz x) : ∀ (c : List (Nat × Src)) (ms : List Int), (∀ p ∈ c, p.1 < sz.length ∧ match p.2 with | .set v => 0 ≤ v ∧ v < gi sz p.1 | .copy n => n < sz.length ∧ gi sz n ≤ gi sz p.1) → mz sz ms →
    match c.foldl (bstep S) (some ms) with
    | none => ∃ p ∈ c, ¬ chOk S x p
    | some ms' => mz sz ms' ∧ (pin sz.length ms' x ↔ pin sz.length ms x ∧ ∀ p ∈ c, chOk S x p)
  | [], ms, _, h => ⟨h, by simp⟩
  | p :: c, ms, hc, h => by
    have hp := hc p (by simp)
    have hc' : ∀ q ∈ c, _ := fun q hq => hc q (List.mem_cons_of_mem p hq)
    obtain ⟨k, s⟩ := p
    rw [List.foldl_cons]
    cases s with
    | set v =>
      show match c.foldl (bstep S) (if has (gi S k) v = true then some ms else none) with | none => _ | some ms' => _
      by_cases hh : has (gi S k) v = true
      · rw [if_pos hh]
        have ih := bef2_ok hz hS hx c ms hc' h
        split at ih
        · obtain ⟨q, hq, hn⟩ := ih
          exact ⟨q, by simp [hq], hn⟩
        · refine ⟨ih.1, ih.2.trans ⟨fun ⟨a, b⟩ => ⟨a, fun q hq => ?_⟩, fun ⟨a, b⟩ => ⟨a, fun q hq => b q (by simp [hq])⟩⟩⟩
          rcases List.mem_cons.mp hq with rfl | hq
          · exact hh
          · exact b q hq
      · rw [if_neg hh, foldl_none]
        exact ⟨(k, .set v), by simp, hh⟩
    | copy n =>
      show match c.foldl (bstep S) (some (ms.set n (ban (gi ms n) (gi S k)))) with | none => _ | some ms' => _
      have hw := mz_sm hz hS hp.1
      have ih := bef2_ok hz hS hx c _ hc' (mz_ban hz h hp.2.1 hw)
      split at ih
      · rename_i e; rw [e]
        obtain ⟨q, hq, hn⟩ := ih
        exact ⟨q, by simp [hq], hn⟩
      · rename_i ms' e; rw [e]
        refine ⟨ih.1, ih.2.trans ?_⟩
        rw [pin_ban hz h hx hp.2.1 hw]
        constructor
        · rintro ⟨⟨a, b⟩, c'⟩
          refine ⟨a, fun q hq => ?_⟩
          rcases List.mem_cons.mp hq with rfl | hq
          · exact b
          · exact c' q hq
        · rintro ⟨a, b⟩
          exact ⟨⟨a, b (k, .copy n) (by simp)⟩, fun q hq => b q (by simp [hq])⟩
theorem bef1_at {sz S : List Int} {d : Deed} (hd : wfD sz d) (hS : S.length = sz.length) : (∀ p ∈ d.c, gi (bef1 sz d S) p.1 = fullM (gi sz p.1)) ∧ ∀ i, (∀ p ∈ d.c, p.1 ≠ i) → gi (bef1 sz d S) i = gi S i := by
  have := foldl_set_get (x := S) (fun p => fullM (gi sz p.1)) d.c S hd.2.1 fun p hp => by rw [hS]; exact (hd.2.2 p hp).1
  exact this.2
theorem aft_in {sz S x : List Int} {d : Deed} (hz : wfS sz) (hd : wfD sz d) (hS : mz sz S) (hx : dk sz x) : inS S (aft d x) = true ↔ pin sz.length (bef1 sz d S) x ∧ ∀ p ∈ d.c, chOk S x p := by
  have hl := aft_len hd hx.1
  have ha := aft_dk hz hd hx
  rw [inS_iff]
  constructor
  · rintro ⟨h1, h2⟩
    have h2 : ∀ i, i < sz.length → has (gi S i) (gi (aft d x) i) = true := fun i hi => (h2 i (by rw [hS.1]; exact hi)).2
    refine ⟨fun i hi => ?_, fun p hp => ?_⟩
    · by_cases h : ∃ p ∈ d.c, p.1 = i
      · obtain ⟨p, hp, rfl⟩ := h
        rw [(bef1_at hd hS.1).1 p hp]
        unfold fullM
        have h3 := hz.2 p.1 hi
        rw [has_full (by omega) h3.2 (dk_sv hz hx hi)]
        simpa using (hx.2 p.1 hi).2
      · have hn : ∀ p ∈ d.c, p.1 ≠ i := fun p hp e => h ⟨p, hp, e⟩
        rw [(bef1_at hd hS.1).2 i hn, ← aft_no hd hx.1 hn]
        exact h2 i hi
    · unfold chOk
      rw [← aft_at hd hx.1 hp]
      exact h2 p.1 (hd.2.2 p hp).1
  · rintro ⟨h1, h2⟩
    refine ⟨by rw [hS.1, ha.1], fun i hi => ?_⟩
    have hi : i < sz.length := by rw [← hS.1]; exact hi
    refine ⟨dk_sv hz ha hi, ?_⟩
    by_cases h : ∃ p ∈ d.c, p.1 = i
    · obtain ⟨p, hp, rfl⟩ := h
      rw [aft_at hd hx.1 hp]
      exact h2 p hp
    · have hn : ∀ p ∈ d.c, p.1 ≠ i := fun p hp e => h ⟨p, hp, e⟩
      have := h1 i hi
      rwa [(bef1_at hd hS.1).2 i hn, ← aft_no hd hx.1 hn] at this
theorem bef_some {sz S T : List Int} {d : Deed} (hz : wfS sz) (hd : wfD sz d) (hS : sk sz S) (h : bef sz d S = some T) : sk sz T ∧ ∀ x, inS T x = true ↔ dk sz x ∧ can d x = true ∧ inS S (aft d x) = true := by
  unfold bef at h
  have hm1 := bef1_mz hz hd (sk_mz hS)
  cases e : bef2 d S (bef1 sz d S) with
  | none => rw [e] at h; cases h
  | some ms =>
    rw [e] at h
    simp only at h
    split at h
    · cases h
    · rename_i h0
      cases h
      have any : ∀ x, dk sz x → mz sz ms ∧ mz sz (bef3 d ms) ∧ (pin sz.length (bef3 d ms) x ↔ can d x = true ∧ inS S (aft d x) = true) := fun x hx => by
        have k2 := bef2_ok hz (sk_mz hS) hx d.c _ hd.2.2 hm1
        have e' : d.c.foldl (bstep S) (some (bef1 sz d S)) = some ms := e
        rw [e'] at k2
        have k3 := bef3_ok hz hx d.g ms hd.1.2 k2.1
        refine ⟨k2.1, k3.1, k3.2.trans ?_⟩
        rw [aft_in hz hd (sk_mz hS) hx, ← k2.2]
        exact And.comm
      obtain ⟨x0, hx0⟩ := sk_some hz hS
      have hz3 := (any x0 (sk_in hz hS hx0)).2.1
      have hT : sk sz (bef3 d ms) := by
        refine ⟨hz3.1, fun i hi => ⟨?_, (hz3.2 i hi).2⟩⟩
        have hne : gi (bef3 d ms) i ≠ 0 := fun q => h0 (by
          have := List.mem_of_getElem? (gi_get (l := bef3 d ms) (i := i) (by rw [hz3.1]; exact hi))
          rwa [q] at this)
        have := (hz3.2 i hi).1
        omega
      refine ⟨hT, fun x => ?_⟩
      constructor
      · intro hi
        have hx := sk_in hz hT hi
        obtain ⟨h1, h2⟩ := inS_iff.mp hi
        exact ⟨hx, (any x hx).2.2.mp fun i hi => (h2 i (by rw [hz3.1]; exact hi)).2⟩
      · rintro ⟨hx, hc⟩
        have hp := (any x hx).2.2.mpr hc
        exact inS_iff.mpr ⟨by rw [hz3.1, hx.1], fun i hi => by rw [hz3.1] at hi; exact ⟨dk_sv hz hx hi, hp i hi⟩⟩
end Tel
namespace Tel
open PySem PySem.Spec L2 DL Msk
def incl (a b : List Int) : Bool := (a.zip b).all fun p => ban p.1 p.2 == p.1
theorem ban_self {m : Int} (h : sm m) : ban m m = m := by
  obtain ⟨a, rfl, ha⟩ := sm_nat h
  rw [ban_nat, Nat.and_self]
theorem incl_refl : ∀ {S : List Int}, sks S → incl S S = true
  | [], _ => rfl
  | m :: S, h => by
    unfold incl
    rw [List.zip_cons_cons, List.all_cons, Bool.and_eq_true, beq_iff_eq]
    exact ⟨ban_self (h m (by simp)), incl_refl fun c hc => h c (by simp [hc])⟩
def noP (pc : List (List Int)) (x : List Int) : Prop := (pc.any fun b => inS b x) = false
theorem wout_in {n : Nat} {a : List Int} {pc : List (List Int)} (ha : sks a) (hn : a.length = n) (k : ∀ b ∈ pc, sks b ∧ b.length = n) (x : List Int) : (∃ p ∈ wout a pc, inS p x = true) ↔ inS a x = true ∧ noP pc x := by
  have := countP_wout (n := n) x (piece := pc) (parts := [a]) (by simpa using ⟨ha, hn⟩) k
  have e : (∃ p ∈ wout a pc, inS p x = true) ↔ 0 < (wout a pc).countP fun p => inS p x := by
    rw [List.countP_pos_iff]
  rw [e]
  unfold wout noP
  rw [this]
  cases h1 : (pc.any fun b => inS b x)
  · simp only [Bool.false_eq_true, if_false]
    simp only [List.countP_cons, List.countP_nil]
    cases inS a x <;> simp
  · simp
theorem split_mk : ∀ {sz a b : List Int}, wfS sz → sk sz a → sks b → b.length = sz.length → ∀ p ∈ split a b, sk sz p := by
  intro sz a b hz ha hb hl p hp
  have hs := sk_sks hz ha
  unfold split at hp
  by_cases h0 : 0 ∈ meetL a b
  · rw [if_pos h0] at hp
    simp at hp
    subst hp
    exact ha
  · rw [if_neg h0] at hp
    -- by places
    have key : ∀ {a b : List Int}, sks a → sks b → a.length = b.length → 0 ∉ meetL a b → ∀ p ∈ splitR a b, p.length = a.length ∧ ∀ i, i < a.length → gi p i = gi a i ∨ (gi p i ≠ 0 ∧ ∃ w, sm w ∧ gi p i = ban (gi a i) w) ∨ (gi p i ≠ 0 ∧ ∃ w, sm w ∧ gi p i = bxr (gi a i) (ban (gi a i) w)) := by
      intro a
      induction a with
      | nil => intro b _ _ _ _ p hp; simp [splitR] at hp
      | cons m a ih =>
        intro b ha hb hl h0 p hp
        cases b with
        | nil => simp at hl
        | cons w b =>
          have hw := hb w (by simp)
          have h0' : 0 ∉ meetL a b := fun q => h0 (List.mem_cons_of_mem _ q)
          have hne : ban m w ≠ 0 := fun q => h0 (by show 0 ∈ ban m w :: meetL a b; rw [q]; exact List.mem_cons_self)
          simp only [splitR, List.mem_append, List.mem_map] at hp
          rcases hp with hp | ⟨q, hq, rfl⟩
          · by_cases hz : bxr m (ban m w) = 0
            · rw [if_pos hz] at hp; simp at hp
            · rw [if_neg hz] at hp
              simp at hp
              subst hp
              refine ⟨rfl, fun i hi => ?_⟩
              cases i with
              | zero => exact .inr (.inr ⟨hz, w, hw, rfl⟩)
              | succ i => exact .inl rfl
          · obtain ⟨h1, h2⟩ := ih (fun c hc => ha c (by simp [hc])) (fun c hc => hb c (by simp [hc])) (by simpa using hl) h0' q hq
            refine ⟨by simp [h1], fun i hi => ?_⟩
            cases i with
            | zero => exact .inr (.inl ⟨hne, w, hw, rfl⟩)
            | succ i => exact h2 i (by simpa using hi)
    obtain ⟨k1, k2⟩ := key hs hb (ha.1.trans hl.symm) h0 p hp
    refine ⟨k1.trans ha.1, fun i hi => ?_⟩
    have hi' : i < a.length := by rw [ha.1]; exact hi
    have ham := ha.2 i hi
    have hz16 := (hz.2 i hi).2
    rcases k2 i hi' with h | ⟨h1, w, hw, h⟩ | ⟨h1, w, hw, h⟩
    · rw [h]; exact ham
    · rw [h] at h1 ⊢
      exact mk_ban hz16 ham hw h1
    · rw [h] at h1 ⊢
      obtain ⟨x, ex, hx⟩ := sm_nat (mk_sm hz16 ham)
      obtain ⟨y, rfl, hy⟩ := sm_nat hw
      rw [ex] at h1 ham ⊢
      rw [ban_nat, bxr_nat] at h1 ⊢
      have e1 := or_xor_and x (x &&& y)
      have e2 : x ||| (x &&& y) = x := by
        refine Nat.eq_of_testBit_eq fun j => ?_
        rw [Nat.testBit_or, Nat.testBit_and]
        cases x.testBit j <;> simp
      have h2 := ham.2
      exact ⟨by omega, by omega⟩
theorem wout_mk {sz : List Int} (hz : wfS sz) : ∀ {pc parts : List (List Int)}, (∀ p ∈ parts, sk sz p) → (∀ b ∈ pc, sks b ∧ b.length = sz.length) → ∀ p ∈ pc.foldl wstep parts, sk sz p
  | [], parts, h, _ => h
  | b :: pc, parts, h, k => by
    rw [List.foldl_cons]
    refine wout_mk hz (fun p hp => ?_) fun c hc => k c (by simp [hc])
    obtain ⟨q, hq, hp⟩ := List.mem_flatMap.mp hp
    have hb := k b (by simp)
    exact split_mk hz (h q hq) hb.1 hb.2 p hp
structure SS where
  sk : List (List Int)
  og : List (Option (Nat × Nat))
  fd : Int
  dp : List Nat
def SS.nil : SS := ⟨[], [], -1, []⟩
def place (fi : List Int) (st : SS) (s : List Int) (o : Option (Nat × Nat)) (e : Nat) : Nat × SS := match st.sk.findIdx? (fun t => incl s t) with
  | some k => (k, st)
  | none => (st.sk.length, ⟨st.sk ++ [s], st.og ++ [o], if st.fd < 0 ∧ 0 ∉ meetL s fi then st.sk.length else st.fd, st.dp ++ [e]⟩)
def places (fi : List Int) (o : Option (Nat × Nat)) (e : Nat) : SS → List (List Int) → List Nat × SS
  | st, [] => ([], st)
  | st, p :: ps => ((place fi st p o e).1 :: (places fi o e (place fi st p o e).2 ps).1, (places fi o e (place fi st p o e).2 ps).2)
def entry (M : Mach) (pc : List (List Int)) (k : Nat) (S : List Int) (e : Nat) (st : SS) (j : Nat) (d : Deed) : List Nat × SS := match bef M.sz d S with
  | none => ([], st)
  | some b => places M.fi (some (j, k)) e st (wout b pc)
def rowF (M : Mach) (pc : List (List Int)) (k : Nat) (S : List Int) (e : Nat) : SS → Nat → List Deed → List (List Nat) × SS
  | st, _, [] => ([], st)
  | st, j, d :: ds => ((entry M pc k S e st j d).1 :: (rowF M pc k S e (entry M pc k S e st j d).2 (j + 1) ds).1, (rowF M pc k S e (entry M pc k S e st j d).2 (j + 1) ds).2)
structure Ext (st st' : SS) : Prop where
  sk : ∀ (k : Nat) s, st.sk[k]? = some s → st'.sk[k]? = some s
  og : ∀ (k : Nat) s, st.og[k]? = some s → st'.og[k]? = some s
  dp : ∀ (k : Nat) s, st.dp[k]? = some s → st'.dp[k]? = some s
  le : st.sk.length ≤ st'.sk.length
theorem Ext.refl (st : SS) : Ext st st := ⟨fun _ _ h => h, fun _ _ h => h, fun _ _ h => h, Nat.le_refl _⟩
theorem Ext.trans {a b c : SS} (x : Ext a b) (y : Ext b c) : Ext a c := ⟨fun k s h => y.sk k s (x.sk k s h), fun k s h => y.og k s (x.og k s h), fun k s h => y.dp k s (x.dp k s h), Nat.le_trans x.le y.le⟩
theorem get_app {α : Type} {l r : List α} {k : Nat} {s : α} (h : l[k]? = some s) : (l ++ r)[k]? = some s := by
  rw [List.getElem?_append_left (List.getElem?_eq_some_iff.mp h).1]; exact h
theorem place_ext {fi s : List Int} {st : SS} {o : Option (Nat × Nat)} {e : Nat} : Ext st (place fi st s o e).2 := by
  unfold place
  split
  · exact .refl _
  · exact ⟨fun k t h => get_app h, fun k t h => get_app h, fun k t h => get_app h, by simp⟩
theorem places_ext {fi : List Int} {o : Option (Nat × Nat)} {e : Nat} : ∀ {ps : List (List Int)} {st : SS}, Ext st (places fi o e st ps).2
  | [], st => .refl _
  | p :: ps, st => place_ext.trans places_ext
theorem entry_ext {M : Mach} {pc : List (List Int)} {k e : Nat} {S : List Int} {st : SS} {j : Nat} {d : Deed} : Ext st (entry M pc k S e st j d).2 := by
  unfold entry
  split
  · exact .refl _
  · exact places_ext
theorem rowF_ext {M : Mach} {pc : List (List Int)} {k e : Nat} {S : List Int} : ∀ {ds : List Deed} {st : SS} {j : Nat}, Ext st (rowF M pc k S e st j ds).2
  | [], st, j => .refl _
  | d :: ds, st, j => entry_ext.trans rowF_ext
instance : Coe (List Int) (Nat → List Int → Prop) := ⟨fun S _ x => inS S x = true⟩
instance : Coe (List Int) (List Int → Prop) := ⟨fun S x => inS S x = true⟩
def orgOk (M : Mach) (im : Nat → List Int → Prop) (pc : List (List Int)) (st : SS) (k : Nat) (s : List Int) : Option (Nat × Nat) → Prop
  | none => st.dp[k]? = some 0 ∧ ∀ x, inS s x = true → im k x ∧ noP pc x
  | some (j, n) => n < k ∧ ∃ d t e, M.ds[j]? = some d ∧ st.sk[n]? = some t ∧ st.dp[n]? = some e ∧ st.dp[k]? = some (e + 1) ∧ ∀ x, inS s x = true → noP pc x ∧ can d x = true ∧ inS t (aft d x) = true
def cvs (st : SS) (e : Nat) (ps : List (List Int)) (is : List Nat) : Prop := is.length = ps.length ∧ ∀ (i : Nat) p, ps[i]? = some p → ∃ c t e', is[i]? = some c ∧ st.sk[c]? = some t ∧ st.dp[c]? = some e' ∧ e' ≤ e ∧ incl p t = true
theorem cvs.ext {st st' : SS} {e : Nat} {ps : List (List Int)} {is : List Nat} (h : cvs st e ps is) (x : Ext st st') : cvs st' e ps is :=
  ⟨h.1, fun i p hp => by
    obtain ⟨c, t, e', h1, h2, h3, h4, h5⟩ := h.2 i p hp
    exact ⟨c, t, e', h1, x.sk _ _ h2, x.dp _ _ h3, h4, h5⟩⟩
structure SInv (M : Mach) (im : Nat → List Int → Prop) (pc : List (List Int)) (st : SS) (t : Nat) : Prop where
  ol : st.og.length = st.sk.length
  dl : st.dp.length = st.sk.length
  ok : ∀ s ∈ st.sk, sk M.sz s
  df : st.sk.Pairwise fun a b => incl b a = false
  org : ∀ (k : Nat) s o, st.sk[k]? = some s → st.og[k]? = some o → orgOk M im pc st k s o ∧ ∀ j n, o = some (j, n) → n < t
  fd : (st.fd = -1 ∧ ∀ s ∈ st.sk, 0 ∈ meetL s M.fi) ∨ ∃ k s, st.fd = ((k : Nat) : Int) ∧ st.sk[k]? = some s ∧ 0 ∉ meetL s M.fi ∧ ∀ j s', j < k → st.sk[j]? = some s' → 0 ∈ meetL s' M.fi
  mono : st.dp.Pairwise (· ≤ ·)
theorem orgOk.ext {M : Mach} {im : Nat → List Int → Prop} {pc : List (List Int)} {st st' : SS} {k : Nat} {s : List Int} {o : Option (Nat × Nat)} (h : orgOk M im pc st k s o) (x : Ext st st') : orgOk M im pc st' k s o := by
  cases o with
  | none => exact ⟨x.dp _ _ h.1, h.2⟩
  | some p =>
    obtain ⟨j, n⟩ := p
    obtain ⟨h1, d, t, e, h2, h3, h4, h5, h6⟩ := h
    exact ⟨h1, d, t, e, h2, x.sk _ _ h3, x.dp _ _ h4, x.dp _ _ h5, h6⟩
theorem last_get {α : Type} {l : List α} {a : α} {k : Nat} {s : α} (h : (l ++ [a])[k]? = some s) : (k < l.length ∧ l[k]? = some s) ∨ (k = l.length ∧ s = a) := by
  by_cases hk : k < l.length
  · rw [List.getElem?_append_left hk] at h
    exact .inl ⟨hk, h⟩
  · have hlt := (List.getElem?_eq_some_iff.mp h).1
    have e : k = l.length := by simp at hlt; omega
    subst e
    simp at h
    exact .inr ⟨rfl, h.symm⟩
theorem place_ok {M : Mach} {im : Nat → List Int → Prop} {s : List Int} {pc : List (List Int)} {st : SS} {t e : Nat} {o : Option (Nat × Nat)} (hz : wfS M.sz) (I : SInv M im pc st t) (hs : sk M.sz s) (he : ∀ c ∈ st.dp, c ≤ e)
    (ho : ∀ st', Ext st st' → st'.dp[st.sk.length]? = some e → orgOk M im pc st' st.sk.length s o) (ht : ∀ j n, o = some (j, n) → n < t) :
    SInv M im pc (place M.fi st s o e).2 t ∧ (∀ c ∈ (place M.fi st s o e).2.dp, c ≤ e) ∧ ∃ u e', (place M.fi st s o e).2.sk[(place M.fi st s o e).1]? = some u ∧ (place M.fi st s o e).2.dp[(place M.fi st s o e).1]? = some e' ∧ e' ≤ e ∧ incl s u = true := by
  unfold place
  cases h : st.sk.findIdx? fun t => incl s t with
  | some k =>
    obtain ⟨hk, hi, _⟩ := List.findIdx?_eq_some_iff_getElem.mp h
    have hkd : k < st.dp.length := by rw [I.dl]; exact hk
    exact ⟨I, he, st.sk[k], st.dp[k], List.getElem?_eq_getElem hk, List.getElem?_eq_getElem hkd, he _ (List.getElem_mem hkd), hi⟩
  | none =>
    have hno := List.findIdx?_eq_none_iff.mp h
    have X : Ext st ⟨st.sk ++ [s], st.og ++ [o], if st.fd < 0 ∧ 0 ∉ meetL s M.fi then st.sk.length else st.fd, st.dp ++ [e]⟩ := ⟨fun k t h => get_app h, fun k t h => get_app h, fun k t h => get_app h, by simp⟩
    refine ⟨⟨by simp [I.ol], by simp [I.dl], fun u hu => ?_, ?_, fun k u o' hu ho' => ?_, ?_, ?_⟩, fun c hc => ?_, s, e, by simp, by simp [← I.dl], Nat.le_refl _, incl_refl (sk_sks hz hs)⟩
    · rcases List.mem_append.mp hu with q | q
      · exact I.ok u q
      · rw [List.mem_singleton.mp q]; exact hs
    · refine List.pairwise_append.mpr ⟨I.df, by simp, fun a ha b hb => ?_⟩
      rw [List.mem_singleton.mp hb]
      simpa using hno a ha
    · rcases last_get hu with ⟨k1, k2⟩ | ⟨k1, k2⟩
      · have : st.og[k]? = some o' := by
          rcases last_get ho' with ⟨_, q⟩ | ⟨q, _⟩
          · exact q
          · rw [I.ol] at q; omega
        have := I.org k u o' k2 this
        exact ⟨this.1.ext X, this.2⟩
      · subst k1 k2
        have : o' = o := by
          rcases last_get ho' with ⟨q, _⟩ | ⟨_, q⟩
          · rw [I.ol] at q; omega
          · exact q
        subst this
        exact ⟨ho _ X (by simp [← I.dl]), ht⟩
    · by_cases hc : st.fd < 0 ∧ 0 ∉ meetL s M.fi
      · rw [if_pos hc]
        rcases I.fd with ⟨f1, f2⟩ | ⟨k, u, f1, _⟩
        · refine .inr ⟨st.sk.length, s, rfl, by simp, hc.2, fun j s' hj hs' => ?_⟩
          rcases last_get hs' with ⟨_, q⟩ | ⟨q, _⟩
          · exact f2 s' (List.mem_of_getElem? q)
          · omega
        · omega
      · rw [if_neg hc]
        rcases I.fd with ⟨f1, f2⟩ | ⟨k, u, f1, f2, f3, f4⟩
        · refine .inl ⟨f1, fun u hu => ?_⟩
          rcases List.mem_append.mp hu with q | q
          · exact f2 u q
          · rw [List.mem_singleton.mp q]
            exact Classical.byContradiction fun z => hc ⟨by omega, z⟩
        · refine .inr ⟨k, u, f1, get_app f2, f3, fun j s' hj hs' => ?_⟩
          have hk := (List.getElem?_eq_some_iff.mp f2).1
          rcases last_get hs' with ⟨_, q⟩ | ⟨q, _⟩
          · exact f4 j s' hj q
          · omega
    · refine List.pairwise_append.mpr ⟨I.mono, by simp, fun a ha b hb => ?_⟩
      rw [List.mem_singleton.mp hb]
      exact he a ha
    · rcases List.mem_append.mp hc with q | q
      · exact he c q
      · rw [List.mem_singleton.mp q]; exact Nat.le_refl _
end Tel
namespace Tel
open PySem PySem.Spec L2 DL Msk
section
variable {M : Mach} {im : Nat → List Int → Prop} {pc : List (List Int)}
theorem places_ok (hz : wfS M.sz) {t e : Nat} {o : Option (Nat × Nat)} (ht : ∀ j n, o = some (j, n) → n < t) : ∀ {ps : List (List Int)} {st : SS}, SInv M im pc st t → (∀ p ∈ ps, sk M.sz p) → (∀ c ∈ st.dp, c ≤ e) →
    (∀ p ∈ ps, ∀ st' k, Ext st st' → st.sk.length ≤ k → st'.dp[k]? = some e → orgOk M im pc st' k p o) →
    SInv M im pc (places M.fi o e st ps).2 t ∧ (∀ c ∈ (places M.fi o e st ps).2.dp, c ≤ e) ∧ cvs (places M.fi o e st ps).2 e ps (places M.fi o e st ps).1
  | [], st, I, _, he, _ => ⟨I, he, rfl, by simp⟩
  | p :: ps, st, I, hs, he, ho => by
    obtain ⟨I1, he1, u, e', h1, h2, h3, h4⟩ := place_ok hz I (hs p (by simp)) he (fun st' X hd => ho p (by simp) st' _ X (Nat.le_refl _) hd) ht
    have X1 : Ext st (place M.fi st p o e).2 := place_ext
    obtain ⟨I2, he2, c1, c2⟩ := places_ok hz ht (ps := ps) I1 (fun q hq => hs q (by simp [hq])) he1 fun q hq st' k X hk hd => ho q (by simp [hq]) st' k (X1.trans X) (Nat.le_trans X1.le hk) hd
    have X2 : Ext (place M.fi st p o e).2 (places M.fi o e (place M.fi st p o e).2 ps).2 := places_ext
    refine ⟨I2, he2, by simp [places, c1], fun i q hq => ?_⟩
    cases i with
    | zero =>
      simp at hq
      subst hq
      exact ⟨_, u, e', rfl, X2.sk _ _ h1, X2.dp _ _ h2, h3, h4⟩
    | succ i =>
      obtain ⟨c, t', e2, k1, k2⟩ := c2 i q (by simpa using hq)
      exact ⟨c, t', e2, by simpa [places] using k1, k2⟩
def entOk (pc : List (List Int)) (st : SS) (e : Nat) (o : Option (List Int)) (en : List Nat) : Prop := match o with
  | none => en = []
  | some b => cvs st e (wout b pc) en
theorem entOk.ext {st st' : SS} {e : Nat} {o : Option (List Int)} {en : List Nat} (h : entOk pc st e o en) (x : Ext st st') : entOk pc st' e o en := by
  cases o with
  | none => exact h
  | some b => exact cvs.ext h x
structure Pc (M : Mach) (pc : List (List Int)) : Prop where
  ok : ∀ b ∈ pc, sk M.sz b
theorem Pc.sks {M : Mach} {pc : List (List Int)} (h : Pc M pc) (hz : wfS M.sz) : ∀ b ∈ pc, sks b ∧ b.length = M.sz.length := fun b hb => ⟨sk_sks hz (h.ok b hb), (h.ok b hb).1⟩
theorem entry_ok (W : M.wf) (hp : Pc M pc) {st : SS} {k e : Nat} {S : List Int} {j : Nat} {d : Deed} (I : SInv M im pc st (k + 1)) (hk : st.sk[k]? = some S) (hd : M.ds[j]? = some d) (he0 : st.dp[k]? = some e) (he : ∀ c ∈ st.dp, c ≤ e + 1) :
    SInv M im pc (entry M pc k S (e + 1) st j d).2 (k + 1) ∧ (∀ c ∈ (entry M pc k S (e + 1) st j d).2.dp, c ≤ e + 1) ∧ entOk pc (entry M pc k S (e + 1) st j d).2 (e + 1) (bef M.sz d S) (entry M pc k S (e + 1) st j d).1 := by
  unfold entry
  have hS := I.ok S (List.mem_of_getElem? hk)
  have hwd := W.ds d (List.mem_of_getElem? hd)
  cases h : bef M.sz d S with
  | none => exact ⟨I, he, rfl⟩
  | some b =>
    obtain ⟨hb, hbx⟩ := bef_some W.sz hwd hS h
    have hps := hp.sks W.sz
    have hparts := wout_mk W.sz (pc := pc) (parts := [b]) (by simpa using hb) hps
    refine places_ok W.sz (o := some (j, k)) (fun j' n h => by cases h; exact Nat.lt_succ_self _) I hparts he fun p hpp st' k' X hk' hdk => ?_
    have hlt := (List.getElem?_eq_some_iff.mp hk).1
    refine ⟨by omega, d, S, e, hd, X.sk _ _ hk, X.dp _ _ he0, hdk, fun x hx => ?_⟩
    have hw := (wout_in (n := M.sz.length) (sk_sks W.sz hb) hb.1 hps x).mp ⟨p, hpp, hx⟩
    have := (hbx x).mp hw.1
    exact ⟨hw.2, this.2⟩
theorem row_ok (W : M.wf) (hp : Pc M pc) {k e : Nat} {S : List Int} : ∀ {ds : List Deed} {j : Nat} {st : SS}, SInv M im pc st (k + 1) → st.sk[k]? = some S → (∀ (i : Nat) d, ds[i]? = some d → M.ds[j + i]? = some d) → st.dp[k]? = some e → (∀ c ∈ st.dp, c ≤ e + 1) →
    SInv M im pc (rowF M pc k S (e + 1) st j ds).2 (k + 1) ∧ (∀ c ∈ (rowF M pc k S (e + 1) st j ds).2.dp, c ≤ e + 1) ∧ (rowF M pc k S (e + 1) st j ds).1.length = ds.length ∧
      ∀ (i : Nat) d, ds[i]? = some d → ∃ en, (rowF M pc k S (e + 1) st j ds).1[i]? = some en ∧ entOk pc (rowF M pc k S (e + 1) st j ds).2 (e + 1) (bef M.sz d S) en
  | [], j, st, I, _, _, _, he => ⟨I, he, rfl, by simp⟩
  | d :: ds, j, st, I, hk, hd, he0, he => by
    obtain ⟨I1, he1, h1⟩ := entry_ok W hp I hk (show M.ds[j]? = some d from by simpa using hd 0 d rfl) he0 he
    have X1 : Ext st (entry M pc k S (e + 1) st j d).2 := entry_ext
    obtain ⟨I2, he2, h2, h3⟩ := row_ok W hp (ds := ds) (j := j + 1) I1 (X1.sk _ _ hk) (fun i d' h => by have := hd (i + 1) d' (by simpa using h); rwa [show j + (i + 1) = j + 1 + i by omega] at this) (X1.dp _ _ he0) he1
    refine ⟨I2, he2, by simp [rowF, h2], fun i d' hi => ?_⟩
    cases i with
    | zero =>
      simp at hi
      subst hi
      exact ⟨_, rfl, h1.ext rowF_ext⟩
    | succ i =>
      obtain ⟨en, k1, k2⟩ := h3 i d' (by simpa using hi)
      exact ⟨en, by simpa [rowF] using k1, k2⟩
theorem pair_mono {l : List Nat} (h : l.Pairwise (· ≤ ·)) {i j a b : Nat} (hi : l[i]? = some a) (hj : l[j]? = some b) (hij : i ≤ j) : a ≤ b := by
  obtain ⟨h1, rfl⟩ := List.getElem?_eq_some_iff.mp hi
  obtain ⟨h2, rfl⟩ := List.getElem?_eq_some_iff.mp hj
  rcases Nat.lt_or_ge i j with q | q
  · exact List.pairwise_iff_getElem.mp h i j h1 h2 q
  · have : i = j := by omega
    subst this; exact Nat.le_refl _
theorem SInv.more {st : SS} {t t' : Nat} (I : SInv M im pc st t) (h : t ≤ t') : SInv M im pc st t' := ⟨I.ol, I.dl, I.ok, I.df, fun k s o h1 h2 => ⟨(I.org k s o h1 h2).1, fun j n e => Nat.lt_of_lt_of_le ((I.org k s o h1 h2).2 j n e) h⟩, I.fd, I.mono⟩
theorem SInv.base {st : SS} {t : Nat} {im' : Nat → List Int → Prop} (I : SInv M im pc st t) (h : ∀ (k : Nat) s x, st.sk[k]? = some s → st.og[k]? = some none → inS s x = true → im k x → im' k x) : SInv M im' pc st t :=
  ⟨I.ol, I.dl, I.ok, I.df, fun k s o h1 h2 => ⟨by
    have := (I.org k s o h1 h2).1
    cases o with
    | none => exact ⟨this.1, fun x hx => ⟨h k s x h1 h2 hx (this.2 x hx).1, (this.2 x hx).2⟩⟩
    | some p => exact this, (I.org k s o h1 h2).2⟩, I.fd, I.mono⟩
structure GInv (M : Mach) (im : Nat → List Int → Prop) (pc : List (List Int)) (tab : List (List (List Nat))) (st : SS) : Prop where
  inv : SInv M im pc st tab.length
  le : tab.length ≤ st.sk.length
  tb : ∀ (k : Nat) row, tab[k]? = some row → ∃ s e, st.sk[k]? = some s ∧ st.dp[k]? = some e ∧ row.length = M.ds.length ∧ ∀ (i : Nat) d, M.ds[i]? = some d → ∃ en, row[i]? = some en ∧ entOk pc st (e + 1) (bef M.sz d s) en
  bd : ∀ e, st.dp[tab.length]? = some e → ∀ c ∈ st.dp, c ≤ e + 1
theorem GInv.step (W : M.wf) (hp : Pc M pc) {tab : List (List (List Nat))} {st : SS} {S : List Int} {e : Nat} (L : GInv M im pc tab st) (hS : st.sk[tab.length]? = some S) (he : st.dp[tab.length]? = some e) :
    GInv M im pc (tab ++ [(rowF M pc tab.length S (e + 1) st 0 M.ds).1]) (rowF M pc tab.length S (e + 1) st 0 M.ds).2 := by
  obtain ⟨I, he2, h1, h2⟩ := row_ok W hp (ds := M.ds) (j := 0) (L.inv.more (Nat.le_succ _)) hS (fun i d h => by simpa using h) he (L.bd e he)
  have X : Ext st (rowF M pc tab.length S (e + 1) st 0 M.ds).2 := rowF_ext
  have hlt := (List.getElem?_eq_some_iff.mp hS).1
  refine ⟨by simpa using I, by simp; exact Nat.lt_of_lt_of_le hlt X.le, fun k row hk => ?_, fun e' he' c hc => ?_⟩
  · rcases last_get hk with ⟨k1, k2⟩ | ⟨k1, k2⟩
    · obtain ⟨s, e0, a1, a2, a3, a4⟩ := L.tb k row k2
      exact ⟨s, e0, X.sk _ _ a1, X.dp _ _ a2, a3, fun i d hd => let ⟨en, b1, b2⟩ := a4 i d hd; ⟨en, b1, b2.ext X⟩⟩
    · subst k1 k2
      exact ⟨S, e, X.sk _ _ hS, X.dp _ _ he, h1, h2⟩
  · have := he2 c hc
    have := pair_mono I.mono (X.dp _ _ he) he' (by simp)
    omega
end
section
variable {M : Mach} {im : List Int} {pc : List (List Int)}
structure LInv (M : Mach) (im : List Int) (pc : List (List Int)) (cov : List Nat) (tab : List (List (List Nat))) (st : SS) : Prop where
  inv : SInv M im pc st tab.length
  cv : cvs st 0 (wout im pc) cov
  le : tab.length ≤ st.sk.length
  tb : ∀ (k : Nat) row, tab[k]? = some row → ∃ s e, st.sk[k]? = some s ∧ st.dp[k]? = some e ∧ row.length = M.ds.length ∧ ∀ (i : Nat) d, M.ds[i]? = some d → ∃ en, row[i]? = some en ∧ entOk pc st (e + 1) (bef M.sz d s) en
  bd : ∀ e, st.dp[tab.length]? = some e → ∀ c ∈ st.dp, c ≤ e + 1
theorem LInv.start (W : M.wf) (hp : Pc M pc) (hi : sk M.sz im) : LInv M im pc (places M.fi none 0 .nil (wout im pc)).1 [] (places M.fi none 0 .nil (wout im pc)).2 := by
  have I0 : SInv M im pc .nil 0 := ⟨rfl, rfl, (fun s h => nomatch h), .nil, (fun k s o h => by simp [SS.nil] at h), .inl ⟨rfl, fun s h => nomatch h⟩, .nil⟩
  have hps := hp.sks W.sz
  have hparts := wout_mk W.sz (pc := pc) (parts := [im]) (by simpa using hi) hps
  obtain ⟨I, he, hc⟩ := places_ok W.sz (o := none) (e := 0) (t := 0) (fun _ _ h => by cases h) I0 hparts (fun c h => nomatch h) fun p hpp st' k X hk hd => by
    refine ⟨hd, fun x hx => ?_⟩
    exact (wout_in (n := M.sz.length) (sk_sks W.sz hi) hi.1 hps x).mp ⟨p, hpp, hx⟩
  exact ⟨I, hc, Nat.zero_le _, (fun k row h => by simp at h), fun e _ c hc => by have := he c hc; omega⟩
theorem LInv.g {cov : List Nat} {tab : List (List (List Nat))} {st : SS} (L : LInv M im pc cov tab st) : GInv M im pc tab st := ⟨L.inv, L.le, L.tb, L.bd⟩
theorem LInv.step (W : M.wf) (hp : Pc M pc) {cov : List Nat} {tab : List (List (List Nat))} {st : SS} {S : List Int} {e : Nat} (L : LInv M im pc cov tab st) (hS : st.sk[tab.length]? = some S) (he : st.dp[tab.length]? = some e) :
    LInv M im pc cov (tab ++ [(rowF M pc tab.length S (e + 1) st 0 M.ds).1]) (rowF M pc tab.length S (e + 1) st 0 M.ds).2 := by
  have G := L.g.step W hp hS he
  exact ⟨G.inv, L.cv.ext rowF_ext, G.le, G.tb, G.bd⟩
inductive Rch (M : Mach) (pc : List (List Int)) : List Int → Prop
  | first {x : List Int} : inS M.fi x = true → noP pc x → Rch M pc x
  | step {x : List Int} {j : Nat} {d : Deed} : Rch M pc x → M.ds[j]? = some d → can d x = true → noP pc (aft d x) → Rch M pc (aft d x)
def hist (M : Mach) (im : List Int → Prop) (pc : List (List Int)) : List Int → List Nat → Prop
  | x, [] => noP pc x ∧ im x
  | x, j :: js => noP pc x ∧ ∃ d, M.ds[j]? = some d ∧ can d x = true ∧ hist M im pc (aft d x) js
def chain (og : List (Option (Nat × Nat))) (k : Nat) : List Nat := match og[k]? with
  | some (some (j, n)) => if n < k then j :: chain og n else []
  | _ => []
termination_by k
end
theorem nodup_le {α : Type} [DecidableEq α] : ∀ {l m : List α}, l.Nodup → (∀ a ∈ l, a ∈ m) → l.length ≤ m.length
  | [], m, _, _ => Nat.zero_le _
  | a :: l, m, h, k => by
    obtain ⟨h1, h2⟩ := List.nodup_cons.mp h
    have ha := k a (by simp)
    have ih := nodup_le (l := l) (m := m.erase a) h2 fun b hb => (List.mem_erase_of_ne (fun e => h1 (by rw [← e]; exact hb))).mpr (k b (by simp [hb]))
    rw [List.length_erase_of_mem ha] at ih
    have := List.length_pos_of_mem ha
    simp; omega
end Tel
namespace Tel
open PySem PySem.Spec L2 DL Msk
def cellD (p : Str × Int) : D := .tup [.str p.1, .int p.2]
def srcD : Src → D
  | .set v => .tup [.str "set", .int v]
  | .copy n => .tup [.str "copy", .int (n : Int)]
def gdD (p : Nat × Int) : D := .tup [.int (p.1 : Int), .int p.2]
def chD (p : Nat × Src) : D := .tup [.int (p.1 : Int), srcD p.2]
def deedD (d : Deed) : D := .tup [.str d.nm, .tup (d.g.map gdD), .tup (d.c.map chD)]
def machD (C : Addr) (M : Mach) : D := .obj C [("cells", .tup (M.cells.map cellD)), ("deeds", .tup (M.ds.map deedD)), ("first", tupI M.fi)]
def occB (i j : Str) : Bool := !(Builtin.Str.occurrences j i 0 j.length 1).isEmpty
theorem o_inS {f : Bool → Bool} {i j : Str} {k l} : opz (dIn f (.str i) (.str j)) k l = k (.fz (.bl (f (occB i j)))) := opz_one _ (by
  funext z
  refine propext ⟨?_, fun h => ⟨_, rfl, h⟩⟩
  rintro ⟨b, hb, rfl⟩
  have hb : b = occB i j := hb
  rw [hb])
abbrev lowS : Str := "abcdefghijklmnopqrstuvwxyz"
abbrev digS : Str := "0123456789"
def signB (c : Nat) : Bool := occB ⟨#[c]⟩ lowS || occB ⟨#[c]⟩ digS
def nmB (x : Str) : Bool := match x.cps.toList with
  | [] => false
  | c :: r => decide (x.length ≤ 12) && occB ⟨#[c]⟩ lowS && (c :: r).all signB
end Tel
namespace Tel
open PySem PySem.Spec L2 DL Msk
theorem str_len (x : Str) : x.length = x.cps.toList.length := by
  show x.cps.size = _
  simp
end Tel
namespace Tel
open PySem PySem.Spec L2 DL Msk
theorem o_eqS {i j : Str} {k l} : opz (dEq (.str i) (.str j)) k l = k (.fz (.bl (decide (i = j)))) := opz_one _ (by
  funext z
  refine propext ⟨?_, fun h => ⟨_, .inl rfl, h⟩⟩
  rintro ⟨b, hb, rfl⟩
  rcases hb with hb | ⟨_, _, rfl⟩
  · simp [D.eqS] at hb; rw [hb]
  · congr 3)
theorem o_neS {i j : Str} {k l} : opz (dNe (.str i) (.str j)) k l = k (.fz (.bl (!decide (i = j)))) := opz_one _ (by
  funext z
  refine propext ⟨?_, fun h => ⟨_, .inl rfl, h⟩⟩
  rintro ⟨b, hb, rfl⟩
  rcases hb with hb | ⟨_, _, rfl⟩
  · simp [D.eqS] at hb; rw [hb]
  · congr 4)
theorem gdD_mk {a : Nat} {m : Int} : gdD (a, m) = .tup [.int (a : Int), .int m] := rfl
theorem chD_set {a : Nat} {v : Int} : chD (a, .set v) = .tup [.int (a : Int), .tup [.str "set", .int v]] := rfl
theorem chD_copy {a n : Nat} : chD (a, .copy n) = .tup [.int (a : Int), .tup [.str "copy", .int (n : Int)]] := rfl
theorem ne_sc : (("set" : Str) = "copy") = False := eq_false (by decide)
theorem ne_cs : (("copy" : Str) = "set") = False := eq_false (by decide)
end Tel
namespace Tel
open PySem PySem.Spec L2 DL Msk
def machM (C : Addr) (M : Mach) : DL.M := .mo C (.cons "cells" (.fz (.tup (M.cells.map cellD))) (.cons "deeds" (.fz (.tup (M.ds.map deedD))) (.cons "first" (.fz (tupI M.fi)) .nil)))
theorem machM_frz {C : Addr} {M : Mach} : (machM C M).frz = machD C M := rfl
structure Mach.ok (M : Mach) : Prop where
  wf : M.wf
  nc : ∀ c ∈ M.cells, nmB c.1 = true
  dc : (M.cells.map (·.1)).Nodup
  nd : ∀ d ∈ M.ds, nmB d.nm = true
  dd : (M.ds.map (·.nm)).Nodup
  le : M.ds.length ≤ 400
theorem sz_len (M : Mach) : M.sz.length = M.cells.length := by unfold Mach.sz; simp
end Tel
namespace Tel
open PySem PySem.Spec L2 DL Msk
theorem deedD_eq {d : Deed} : deedD d = .tup [.str d.nm, .tup (d.g.map gdD), .tup (d.c.map chD)] := rfl
theorem cellD_eq {p : Str × Int} : cellD p = .tup [.str p.1, .int p.2] := rfl
end Tel
namespace Tel
open PySem PySem.Spec L2 DL Msk
def prD {α β : Type} (f : α → D) (g : β → D) (p : α × β) : D := .tup [f p.1, g p.2]
theorem zipD_map {α β : Type} {f : α → D} {g : β → D} {xs : List α} {ys : List β} : zipD (xs.map f) (ys.map g) = (xs.zip ys).map (prD f g) := by
  unfold zipD
  rw [List.zip_map, List.map_map]
  rfl
theorem zip_at {xs ys : List Int} {p : Int × Int} (h : p ∈ xs.zip ys) : ∃ i, i < xs.length ∧ i < ys.length ∧ p = (gi xs i, gi ys i) := by
  obtain ⟨i, hi, rfl⟩ := List.getElem_of_mem h
  rw [List.length_zip] at hi
  refine ⟨i, by omega, by omega, ?_⟩
  rw [List.getElem_zip, gi_of (List.getElem?_eq_getElem (by omega : i < xs.length)), gi_of (List.getElem?_eq_getElem (by omega : i < ys.length))]
end Tel
namespace DL
theorem free_pin {sl : Slot} (h : sl.free = true) : sl.pinned = false := by
  cases sl with
  | p _ _ => cases h
  | _ => rfl
end DL
namespace Tel
open PySem PySem.Spec L2 DL Msk
theorem zipc_at {M : Mach} {S : List Int} {i : Nat} {p : Int × Str × Int} (h : (S.zip M.cells)[i]? = some p) : i < S.length ∧ i < M.sz.length ∧ p.1 = gi S i ∧ p.2.2 = gi M.sz i := by
  obtain ⟨m, c⟩ := p
  obtain ⟨h1, h2⟩ := List.getElem?_zip_eq_some.mp h
  have h3 : M.sz[i]? = some c.2 := by unfold Mach.sz; rw [List.getElem?_map, h2]; rfl
  exact ⟨(List.getElem?_eq_some_iff.mp h1).1, (List.getElem?_eq_some_iff.mp h3).1, (gi_of h1).symm, (gi_of h3).symm⟩
end Tel
namespace Tel
open PySem PySem.Spec L2 DL Msk
end Tel
namespace Tel
open PySem PySem.Spec L2 DL Msk
def optI : Option (List Int) → D
  | none => .non
  | some l => tupI l
end Tel
namespace Tel
open PySem PySem.Spec L2 DL Msk
theorem ixN_nat {n k : Nat} (h : k < n) : ixN n (k : Int) = some k := by
  unfold ixN
  simp
  omega
theorem set_ints {l : List Int} {i : Nat} {a : Int} : (l.map D.int).set i (.int a) = (l.set i a).map .int := by rw [List.map_set]
theorem at_ints {l : List Int} {n : Nat} (h : l.length = n) : ∀ j : Nat, j < n → atI (l.map D.int) (j : Int) = some (.int (gi l j)) := fun j hj => DL.atI_nat (by rw [List.getElem?_map, gi_get (by omega)]; rfl)
theorem has_bt {m v : Int} (hm : sm m) (hv : sv v) : has m v = !decide (bt m v = 0) := by
  unfold has
  rcases bt_01 hm hv with z | z <;> rw [z] <;> decide
end Tel
namespace Tel
open PySem PySem.Spec L2 DL Msk
end Tel
namespace Tel
open PySem PySem.Spec L2 DL Msk
def natD (n : Nat) : D := .int (n : Int)
end Tel
namespace Tel
open PySem PySem.Spec L2 DL Msk
end Tel
namespace Tel
open PySem PySem.Spec L2 DL Msk
end Tel
namespace Tel
open PySem PySem.Spec L2 DL Msk
end Tel
namespace DL
open PySem PySem.Spec L2
end DL
namespace Tel
open PySem PySem.Spec L2 DL Msk
end Tel
namespace Tel
open PySem PySem.Spec L2 DL Msk
end Tel
namespace Tel
open PySem PySem.Spec L2 DL Msk
def stepF (M : Mach) (P : List (List Int)) (q : List (List (List Nat)) × SS) : List (List (List Nat)) × SS := match q.2.sk[q.1.length]?, q.2.dp[q.1.length]? with
  | some S, some e => if q.2.fd < 0 then (q.1 ++ [(rowF M P q.1.length S (e + 1) q.2 0 M.ds).1], (rowF M P q.1.length S (e + 1) q.2 0 M.ds).2) else q
  | _, _ => q
end Tel
namespace Tel
open PySem PySem.Spec L2 DL Msk
structure szOk (sz : List Int) : Prop where
  wf : wfS sz
  n4 : sz.length ≤ 4
  s3 : ∀ i, i < sz.length → gi sz i ≤ 3
theorem szOk.at {sz : List Int} (h : szOk sz) {k : Nat} (hk : k < sz.length) : atI (sz.map D.int) (k : Int) = some (.int (gi sz k)) ∧ 1 ≤ gi sz k ∧ gi sz k ≤ 3 :=
  ⟨at_ints rfl k hk, (h.wf.2 k hk).1, h.s3 k hk⟩
def mName (k : Nat) : Str := Str.ofString "m" ++ Str.ofString (toString (k : Int))
end Tel
namespace Tel
open PySem PySem.Spec L2 DL Msk
structure gOk (sz : List Int) (i : Nat) (g : List (Nat × Int)) : Prop where
  wf : wfG sz g
  lt : ∀ p ∈ g, p.1 < i
  le : g.length ≤ i
structure cOk (sz : List Int) (i : Nat) (c : List (Nat × Src)) : Prop where
  wf : wfC sz c
  lt : ∀ p ∈ c, p.1 < i
  le : c.length ≤ i
theorem gOk.nil {sz : List Int} : gOk sz 0 [] := ⟨⟨.nil, fun _ h => nomatch h⟩, (fun _ h => nomatch h), Nat.le_refl _⟩
theorem cOk.nil {sz : List Int} : cOk sz 0 [] := ⟨⟨.nil, fun _ h => nomatch h⟩, (fun _ h => nomatch h), Nat.le_refl _⟩
theorem asc_snoc {α : Type} {l : List (Nat × α)} {i : Nat} {a : α} (h : (l.map (·.1)).Pairwise (· < ·)) (k : ∀ p ∈ l, p.1 < i) : ((l ++ [(i, a)]).map (·.1)).Pairwise (· < ·) := by
  rw [List.map_append, List.pairwise_append]
  refine ⟨h, by simp, ?_⟩
  intro x hx y hy
  obtain ⟨p, hp, rfl⟩ := List.mem_map.mp hx
  simp at hy
  subst hy
  exact k p hp
theorem gOk.put {sz : List Int} {i : Nat} {g : List (Nat × Int)} (h : gOk sz i g) (hi : i < sz.length) {m : Int} (hm : Tel.mk (gi sz i) m) : gOk sz (i + 1) (g ++ [(i, m)]) := by
  refine ⟨⟨asc_snoc h.wf.1 h.lt, fun p hp => ?_⟩, fun p hp => ?_, by simpa using h.le⟩
  · rcases List.mem_append.mp hp with q | q
    · exact h.wf.2 p q
    · rw [List.mem_singleton.mp q]; exact ⟨hi, hm⟩
  · rcases List.mem_append.mp hp with q | q
    · exact Nat.lt_succ_of_lt (h.lt p q)
    · rw [List.mem_singleton.mp q]; exact Nat.lt_succ_self _
theorem cOk.put {sz : List Int} {i : Nat} {g : List (Nat × Src)} (h : cOk sz i g) (hi : i < sz.length) {s : Src} (hm : match s with
  | .set v => 0 ≤ v ∧ v < gi sz i
  | .copy n => n < sz.length ∧ gi sz n ≤ gi sz i) : cOk sz (i + 1) (g ++ [(i, s)]) := by
  refine ⟨⟨asc_snoc h.wf.1 h.lt, fun p hp => ?_⟩, fun p hp => ?_, by simpa using h.le⟩
  · rcases List.mem_append.mp hp with q | q
    · exact h.wf.2 p q
    · rw [List.mem_singleton.mp q]; exact ⟨hi, hm⟩
  · rcases List.mem_append.mp hp with q | q
    · exact Nat.lt_succ_of_lt (h.lt p q)
    · rw [List.mem_singleton.mp q]; exact Nat.lt_succ_self _
end Tel
namespace Tel
open PySem PySem.Spec L2 DL Msk
instance {z m : Int} : Decidable (mk z m) := by unfold mk; infer_instance
structure dsOk (sz : List Int) (ds : List Deed) : Prop where
  wf : ∀ d ∈ ds, wfD sz d
  nm : ∀ (i : Nat) d, ds[i]? = some d → d.nm = mName i
theorem dsOk.nil {sz : List Int} : dsOk sz [] := ⟨(fun _ h => nomatch h), fun i d h => by simp at h⟩
theorem dsOk.put {sz : List Int} {ds : List Deed} {d : Deed} (h : dsOk sz ds) (hd : wfD sz d) (hn : d.nm = mName ds.length) : dsOk sz (ds ++ [d]) := by
  refine ⟨fun x hx => ?_, fun i x hx => ?_⟩
  · rcases List.mem_append.mp hx with q | q
    · exact h.wf x q
    · rw [List.mem_singleton.mp q]; exact hd
  · rcases last_get hx with ⟨_, q⟩ | ⟨q, e⟩
    · exact h.nm i x q
    · rw [q, e]; exact hn
theorem isq0 {α : Type} {n : Nat} {f : Int → α} : (isq 0 n).map f = (List.range n).map fun (j : Nat) => f (j : Int) := by
  unfold isq
  rw [List.map_map]
  congr 1
  funext j
  simp
end Tel
namespace Tel
open PySem PySem.Spec L2 DL Msk
end Tel
namespace Tel
open PySem PySem.Spec L2 DL Msk
end Tel
namespace Tel
open PySem PySem.Spec L2 DL Msk
end Tel
namespace Tel
open PySem PySem.Spec L2 DL Msk
def msOk (sz : List Int) (i : Nat) (ms : List Int) : Prop := ms.length = i ∧ ∀ j, j < i → mk (gi sz j) (gi ms j)
theorem msOk.put {sz ms : List Int} {i : Nat} {m : Int} (h : msOk sz i ms) (hm : mk (gi sz i) m) : msOk sz (i + 1) (ms ++ [m]) := by
  refine ⟨by simp [h.1], fun j hj => ?_⟩
  by_cases e : j = i
  · subst e
    rw [gi_of (l := ms ++ [m]) (v := m) (by rw [List.getElem?_append_right (by rw [h.1]; exact Nat.le_refl _), h.1]; simp)]
    exact hm
  · have hj' : j < i := by omega
    have := h.2 j hj'
    have hjl : j < ms.length := by rw [h.1]; exact hj'
    rwa [gi_of (l := ms ++ [m]) (v := gi ms j) (by rw [List.getElem?_append_left hjl]; exact gi_get hjl)]
theorem msOk.sk {sz ms : List Int} (h : msOk sz sz.length ms) : Tel.sk sz ms := h
end Tel
namespace Tel
open PySem PySem.Spec L2 DL Msk
end Tel
namespace Tel
open PySem PySem.Spec L2 DL Msk
inductive RchN (M : Mach) (P : List (List Int)) : Nat → List Int → Prop
  | first {x : List Int} : inS M.fi x = true → noP P x → RchN M P 0 x
  | step {n : Nat} {x : List Int} {j : Nat} {d : Deed} : RchN M P n x → M.ds[j]? = some d → can d x = true → noP P (aft d x) → RchN M P (n + 1) (aft d x)
abbrev Ord := List (List Int × Nat)
def inO (os : Ord) (x : List Int) (m : Nat) : Prop := ∃ n, (x, n) ∈ os ∧ n ≤ m
structure BInv (M : Mach) (P : List (List Int)) (os : Ord) (k : Nat) : Prop where
  nd : (os.map (·.1)).Nodup
  ok : ∀ p ∈ os, RchN M P p.2 p.1
  mono : (os.map (·.2)).Pairwise (· ≤ ·)
  ini : ∀ x, inS M.fi x = true → noP P x → inO os x 0
  cl : ∀ (i : Nat) x n, i < k → os[i]? = some (x, n) → ∀ d ∈ M.ds, can d x = true → noP P (aft d x) → inO os (aft d x) (n + 1)
  bd : ∀ x n, os[k]? = some (x, n) → ∀ p ∈ os, p.2 ≤ n + 1
structure RInv (M : Mach) (P : List (List Int)) (os : Ord) (k j : Nat) (x : List Int) (n : Nat) : Prop where
  nd : (os.map (·.1)).Nodup
  ok : ∀ p ∈ os, RchN M P p.2 p.1
  mono : (os.map (·.2)).Pairwise (· ≤ ·)
  ini : ∀ x, inS M.fi x = true → noP P x → inO os x 0
  cl : ∀ (i : Nat) x n, i < k → os[i]? = some (x, n) → ∀ d ∈ M.ds, can d x = true → noP P (aft d x) → inO os (aft d x) (n + 1)
  at_ : os[k]? = some (x, n)
  row : ∀ (i : Nat) d, i < j → M.ds[i]? = some d → can d x = true → noP P (aft d x) → inO os (aft d x) (n + 1)
  bd : ∀ p ∈ os, p.2 ≤ n + 1
variable {M : Mach} {P : List (List Int)}
theorem BInv.row {os : Ord} {k : Nat} {x : List Int} {n : Nat} (h : BInv M P os k) (e : os[k]? = some (x, n)) : RInv M P os k 0 x n :=
  ⟨h.nd, h.ok, h.mono, h.ini, h.cl, e, (fun i d hi => by omega), h.bd x n e⟩
theorem mono_at {os : Ord} (h : (os.map (·.2)).Pairwise (· ≤ ·)) {i j : Nat} {p q : List Int × Nat} (hi : os[i]? = some p) (hj : os[j]? = some q) (hij : i ≤ j) : p.2 ≤ q.2 :=
  pair_mono h (by rw [List.getElem?_map, hi]; rfl) (by rw [List.getElem?_map, hj]; rfl) hij
theorem RInv.done {os : Ord} {k : Nat} {x : List Int} {n : Nat} (h : RInv M P os k M.ds.length x n) : BInv M P os (k + 1) := by
  refine ⟨h.nd, h.ok, h.mono, h.ini, fun i y m hi e d hd hc hn => ?_, fun y m e p hp => ?_⟩
  · rcases Nat.lt_succ_iff_lt_or_eq.mp hi with q | q
    · exact h.cl i y m q e d hd hc hn
    · subst q
      rw [h.at_] at e
      cases e
      obtain ⟨j, hj, rfl⟩ := List.getElem_of_mem hd
      exact h.row j _ hj (List.getElem?_eq_getElem hj) hc hn
  · have := mono_at h.mono h.at_ e (Nat.le_succ _)
    have := h.bd p hp
    simp only at *
    omega
theorem inO_snoc {os : Ord} {p : List Int × Nat} {x : List Int} {m : Nat} (h : inO os x m) : inO (os ++ [p]) x m := by
  obtain ⟨n, h1, h2⟩ := h
  exact ⟨n, List.mem_append_left _ h1, h2⟩
theorem RInv.put {os : Ord} {k j : Nat} {x : List Int} {n : Nat} {d : Deed} (h : RInv M P os k j x n) (hd : M.ds[j]? = some d) (hc : can d x = true) (hn : noP P (aft d x)) (hs : aft d x ∉ os.map (·.1)) : RInv M P (os ++ [(aft d x, n + 1)]) k (j + 1) x n := by
  have hx := h.ok _ (List.mem_of_getElem? h.at_)
  refine ⟨?_, ?_, ?_, fun y a b => inO_snoc (h.ini y a b), fun i y m hi e d' hd' hc' hn' => ?_, get_app h.at_, fun i d' hi hd' hc' hn' => ?_, fun p hp => ?_⟩
  · rw [List.map_append, List.nodup_append]
    refine ⟨h.nd, by simp, ?_⟩
    intro a ha b hb e
    simp at hb
    subst hb
    exact hs (e ▸ ha)
  · intro p hp
    rcases List.mem_append.mp hp with q | q
    · exact h.ok p q
    · rw [List.mem_singleton.mp q]
      exact .step hx hd hc hn
  · rw [List.map_append, List.pairwise_append]
    refine ⟨h.mono, by simp, ?_⟩
    intro a ha b hb
    simp at hb
    subst hb
    obtain ⟨p, hp, rfl⟩ := List.mem_map.mp ha
    exact h.bd p hp
  · have hk := (List.getElem?_eq_some_iff.mp h.at_).1
    rw [List.getElem?_append_left (by omega)] at e
    exact inO_snoc (h.cl i y m hi e d' hd' hc' hn')
  · rcases Nat.lt_succ_iff_lt_or_eq.mp hi with q | q
    · exact inO_snoc (h.row i d' q hd' hc' hn')
    · subst q
      rw [hd] at hd'
      cases hd'
      exact ⟨n + 1, by simp, Nat.le_refl _⟩
  · rcases List.mem_append.mp hp with q | q
    · exact h.bd p q
    · rw [List.mem_singleton.mp q]; exact Nat.le_refl _
structure Steps (M : Mach) (P : List (List Int)) (os : Ord) : Prop where
  nd : (os.map (·.1)).Nodup
  ok : ∀ p ∈ os, RchN M P p.2 p.1
  min : ∀ n x, RchN M P n x → inO os x n
theorem BInv.all {os : Ord} {k : Nat} (h : BInv M P os k) (hk : os.length ≤ k) : Steps M P os := by
  refine ⟨h.nd, h.ok, fun n x r => ?_⟩
  induction r with
  | first a b => exact h.ini _ a b
  | step r hd hc hn ih =>
    rename_i n x j d
    obtain ⟨m, hm, hle⟩ := ih
    obtain ⟨i, hi, e⟩ := List.getElem_of_mem hm
    obtain ⟨m', a, b⟩ := h.cl i x m (by omega) (by rw [List.getElem?_eq_getElem hi, e]) d (List.mem_of_getElem? hd) hc hn
    exact ⟨m', a, by omega⟩
def allDk : List Int → List (List Int)
  | [] => [[]]
  | z :: sz => ((List.range z.toNat).map fun (i : Nat) => (i : Int)).flatMap fun v => (allDk sz).map fun x => v :: x
theorem dk_cons {z v : Int} {sz x : List Int} (h : dk (z :: sz) (v :: x)) : (0 ≤ v ∧ v < z) ∧ dk sz x := by
  refine ⟨by simpa [gi] using h.2 0 (by simp), by simpa using h.1, fun i hi => ?_⟩
  simpa [gi] using h.2 (i + 1) (by simpa using hi)
theorem dk_all : ∀ {sz x : List Int}, dk sz x → x ∈ allDk sz
  | [], x, h => by
    have : x = [] := List.length_eq_zero_iff.mp h.1
    subst this
    simp [allDk]
  | z :: sz, [], h => by have := h.1; simp at this
  | z :: sz, v :: x, h => by
    obtain ⟨h1, h2⟩ := dk_cons h
    unfold allDk
    refine List.mem_flatMap.mpr ⟨v, List.mem_map.mpr ⟨v.toNat, List.mem_range.mpr (by omega), by omega⟩, List.mem_map.mpr ⟨x, dk_all h2, rfl⟩⟩
theorem BInv.start {xs : List (List Int)} (h : ∀ x, x ∈ xs ↔ inS M.fi x = true ∧ noP P x) (nd : xs.Nodup) : BInv M P (xs.map fun x => (x, 0)) 0 := by
  have e : (xs.map fun x => (x, 0)).map (·.1) = xs := by simp [Function.comp_def]
  have e2 : ∀ p ∈ (xs.map fun x => (x, (0 : Nat))), p.2 = 0 ∧ p.1 ∈ xs := fun p hp => by
    obtain ⟨x, hx, rfl⟩ := List.mem_map.mp hp
    exact ⟨rfl, hx⟩
  refine ⟨by rw [e]; exact nd, fun p hp => ?_, ?_, fun x a b => ⟨0, List.mem_map.mpr ⟨x, (h x).mpr ⟨a, b⟩, rfl⟩, Nat.le_refl _⟩, fun i x n hi => by omega, fun x n _ p hp => by rw [(e2 p hp).1]; omega⟩
  · obtain ⟨a, b⟩ := e2 p hp
    rw [a]
    exact .first ((h _).mp b).1 ((h _).mp b).2
  · rw [List.map_map]
    exact List.pairwise_map.mpr (List.pairwise_of_forall fun _ _ => Nat.le_refl _)
end Tel
namespace Tel
open PySem PySem.Spec L2 DL Msk
end Tel
namespace Tel
open PySem PySem.Spec L2 DL Msk
end Tel
namespace Tel
open PySem PySem.Spec L2 DL Msk
def oD (p : List Int × Nat) : D := tupI p.1
end Tel
namespace Tel
open PySem PySem.Spec L2 DL Msk
theorem Rch.free {M : Mach} {P : List (List Int)} {x : List Int} (h : Rch M P x) : Rch M [] x := by
  induction h with
  | first a b => exact .first a rfl
  | step _ a b _ ih => exact .step ih a b rfl
end Tel
namespace Tel
open PySem PySem.Spec L2 DL Msk
end Tel
namespace Tel
open PySem PySem.Spec L2 DL Msk
end Tel
namespace Tel
open PySem PySem.Spec L2 DL Msk
end Tel
namespace Tel
open PySem PySem.Spec L2 DL Msk
end Tel
namespace Tel
open PySem PySem.Spec L2 DL Msk
end Tel
namespace Tel
open PySem PySem.Spec L2 DL Msk
end Tel
namespace Tel
open PySem PySem.Spec L2 DL Msk
end Tel
namespace Tel
open PySem PySem.Spec L2 DL Msk
end Tel
namespace Tel
open PySem PySem.Spec L2 DL Msk
def dd (ds : List Deed) (k : Nat) : Deed := ds.getD k ⟨"", [], []⟩
theorem dd_get {ds : List Deed} {k : Nat} (h : k < ds.length) : ds[k]? = some (dd ds k) := by
  unfold dd
  rw [List.getD_eq_getElem?_getD, List.getElem?_eq_getElem h]
  rfl
def wk (ds : List Deed) : List Int → List Nat → List (List Int)
  | x, [] => [x]
  | x, k :: ks => x :: wk ds (aft (dd ds k) x) ks
theorem gd_len {sz : List Int} {d : Deed} (h : wfD sz d) (hz : wfS sz) : d.g.length ≤ 24 := by
  have h1 : (d.g.map (·.1)).Nodup := h.1.1.imp fun h e => by omega
  have h2 : (d.g.map (·.1)).length ≤ (List.range sz.length).length := nodup_le h1 fun x hx => by
    obtain ⟨p, hp, rfl⟩ := List.mem_map.mp hx
    exact List.mem_range.mpr (h.1.2 p hp).1
  have := hz.1.2
  simp at h2
  omega
end Tel
namespace Tel
open PySem PySem.Spec L2 DL Msk
section
variable {g : TGd} {s : DSt} {me : TD} {vs : List Nat} {Q : DL.W → DSt → Prop} {l : Lock Q}
theorem lcR_ix {n : Nat} (S : DSt → Prop) (pr : Nat → Int → Prop) (hl : n ≤ sizeLine) (h0 : S s)
    (hb : ∀ i, i < n → ∀ s, S s → ∀ (R : DL.M → DSt → Prop), (∀ y s' v, y.frz = .int v → pr i v → S s' → R y s') → freeAt s vs = true ∧ g (.fz (.int (0 + (i : Nat)))) (wipeD s vs) fun s2 => me s2 fun w s4 => tv w s4 fun y s5 => R y (unw s s5 vs))
    (hq : ∀ (xs : List Int) s', xs.length = n → (∀ i, i < n → pr i (gi xs i)) → S s' → Q (.val (.ml (xs.map .int))) s') : LcR (rng 0 n) g mYes me vs Q l s := by
  refine ⟨fun i acc s => (∃ xs : List Int, acc = xs.map .int ∧ xs.length = i ∧ ∀ j, j < i → pr j (gi xs j)) ∧ S s, ⟨⟨[], rfl, rfl, fun j hj => by omega⟩, h0⟩, ?_, ?_⟩
  · rintro i d acc s hd ⟨⟨xs, rfl, rfl, hp⟩, hs⟩
    obtain ⟨hi, rfl⟩ := rng_get hd
    refine hb xs.length hi s hs (fun y s' => (xs.map D.int).length < sizeLine ∧ (∃ ys : List Int, xs.map D.int ++ [y.frz] = ys.map .int ∧ ys.length = xs.length + 1 ∧ ∀ j, j < xs.length + 1 → pr j (gi ys j)) ∧ S s') fun y s' v hy hv h => ⟨by rw [List.length_map]; omega, ⟨xs ++ [v], by rw [hy]; simp, by simp, fun j hj => ?_⟩, h⟩
    by_cases e : j < xs.length
    · have := hp j e
      rw [gi_of (l := xs ++ [v]) (v := gi xs j) (by rw [List.getElem?_append_left e]; exact gi_get e)]
      exact this
    · obtain rfl : j = xs.length := by omega
      rw [gi_of (l := xs ++ [v]) (v := v) (by simp)]
      exact hv
  · rintro acc s ⟨⟨xs, rfl, hx, hp⟩, h⟩
    rw [rng_len] at hx hp
    exact hq xs s hx hp h
end
end Tel
namespace Tel
open PySem PySem.Spec L2 DL Msk
end Tel
namespace Tel
open PySem PySem.Spec L2 DL Msk
structure sz24 (sz : List Int) : Prop where
  wf : wfS sz
  s3 : ∀ i, i < sz.length → gi sz i ≤ 3
theorem sz24.at {sz : List Int} (h : sz24 sz) {k : Nat} (hk : k < sz.length) : atI (sz.map D.int) (k : Int) = some (.int (gi sz k)) ∧ 1 ≤ gi sz k ∧ gi sz k ≤ 3 := ⟨at_ints rfl k hk, (h.wf.2 k hk).1, h.s3 k hk⟩
def ext (N : Mach) (cs : List (Str × Int)) (es : List Deed) (fs : List Int) : Mach := ⟨N.cells ++ cs, N.ds ++ es, N.fi ++ fs⟩
end Tel
namespace Tel
open PySem PySem.Spec L2 DL Msk
def movG (ps : List Int) (gd : List (Int × Int)) (d : Deed) : List (Int × Int) := d.g.map (fun p => (gi ps p.1, p.2)) ++ gd
def mvS (ps : List Int) : Src → Src
  | .set v => .set v
  | .copy n => .copy (gi ps n).toNat
structure movR (ps : List Int) (gd : List (Int × Int)) (d e : Deed) : Prop where
  gp : (e.g.map fun p : Nat × Int => ((p.1 : Int), p.2)).Perm (movG ps gd d)
  ci : ∀ q ∈ d.c, ((gi ps q.1).toNat, mvS ps q.2) ∈ e.c
  co : ∀ p ∈ e.c, ∃ q ∈ d.c, p = ((gi ps q.1).toNat, mvS ps q.2)
end Tel
namespace Tel
open PySem PySem.Spec L2 DL Msk
section
variable {M : Mach} {pc : List (List Int)} {pf : List Int → List (List Int)} {RS : List (List Int)}
theorem place_new {fi s : List Int} {st : SS} {o : Option (Nat × Nat)} {e c : Nat} {t : List Int} (h : (place fi st s o e).2.sk[c]? = some t) (hc : st.sk.length ≤ c) : t = s := by
  unfold place at h
  split at h
  · have : c < st.sk.length := (List.getElem?_eq_some_iff.mp h).1
    omega
  · rcases last_get h with ⟨k1, _⟩ | ⟨_, k2⟩
    · omega
    · exact k2
theorem places_new {fi : List Int} {o : Option (Nat × Nat)} {e c : Nat} {t : List Int} : ∀ {ps : List (List Int)} {st : SS}, (places fi o e st ps).2.sk[c]? = some t → st.sk.length ≤ c → t ∈ ps
  | [], st, h, hc => by
    have : c < st.sk.length := (List.getElem?_eq_some_iff.mp (show st.sk[c]? = some t from h)).1
    omega
  | p :: ps, st, h, hc => by
    by_cases hl : (place fi st p o e).2.sk.length ≤ c
    · exact List.mem_cons_of_mem _ (places_new h hl)
    · have hx : (places fi o e (place fi st p o e).2 ps).2.sk[c]? = some t := h
      have hlt : c < (place fi st p o e).2.sk.length := by omega
      have h2 := (places_ext (fi := fi) (o := o) (e := e) (ps := ps) (st := (place fi st p o e).2)).sk c _ (List.getElem?_eq_getElem hlt)
      rw [hx] at h2
      cases h2
      rw [place_new (List.getElem?_eq_getElem hlt) hc]
      exact List.mem_cons_self
structure KInv (M : Mach) (pc : List (List Int)) (pf : List Int → List (List Int)) (RS : List (List Int)) (i : Nat) (links : List (List Nat)) (ow : List Nat) (st : SS) : Prop where
  inv : SInv M (fun _ _ => True) pc st 0
  e0 : ∀ c ∈ st.dp, c ≤ 0
  ll : links.length = i
  cv : ∀ (k : Nat) S, k < i → RS[k]? = some S → ∃ en, links[k]? = some en ∧ cvs st 0 (pf S) en
  ol : ow.length = st.sk.length
  own : ∀ (c : Nat) s, st.sk[c]? = some s → ∃ n S, ow[c]? = some n ∧ RS[n]? = some S ∧ s ∈ pf S
theorem KInv.start : KInv M pc pf RS 0 [] [] .nil :=
  ⟨⟨rfl, rfl, (fun s h => nomatch h), .nil, (fun k s o h => by simp [SS.nil] at h), .inl ⟨rfl, fun s h => nomatch h⟩, .nil⟩, (fun c h => nomatch h), rfl, (fun k S h => by omega), rfl, (fun c s h => by simp [SS.nil] at h)⟩
theorem KInv.parts (hz : wfS M.sz) {i : Nat} {links : List (List Nat)} {ow : List Nat} {st : SS} {S : List Int} (I : KInv M pc pf RS i links ow st) (hp : ∀ p ∈ pf S, sk M.sz p ∧ ∀ x, inS p x = true → noP pc x) {ps : List (List Int)} (hps : ∀ p ∈ ps, p ∈ pf S) :
    SInv M (fun _ _ => True) pc (places M.fi none 0 st ps).2 0 ∧ (∀ c ∈ (places M.fi none 0 st ps).2.dp, c ≤ 0) ∧ cvs (places M.fi none 0 st ps).2 0 ps (places M.fi none 0 st ps).1 :=
  places_ok hz (fun _ _ h => by cases h) I.inv (fun p h => (hp p (hps p h)).1) I.e0 fun p h st' k X hk hd => ⟨hd, fun x hx => ⟨trivial, (hp p (hps p h)).2 x hx⟩⟩
theorem KInv.step (hz : wfS M.sz) {i : Nat} {links : List (List Nat)} {ow : List Nat} {st : SS} {S : List Int} (I : KInv M pc pf RS i links ow st) (hS : RS[i]? = some S) (hp : ∀ p ∈ pf S, sk M.sz p ∧ ∀ x, inS p x = true → noP pc x) :
    KInv M pc pf RS (i + 1) (links ++ [(places M.fi none 0 st (pf S)).1]) (ow ++ List.replicate ((places M.fi none 0 st (pf S)).2.sk.length - ow.length) i) (places M.fi none 0 st (pf S)).2 := by
  obtain ⟨I1, I2, I3⟩ := I.parts hz hp (fun p h => h)
  have X : Ext st (places M.fi none 0 st (pf S)).2 := places_ext
  have hle := X.le
  refine ⟨I1, I2, by simp [I.ll], fun k S' hk hS' => ?_, by simp [I.ol]; omega, fun c s hc => ?_⟩
  · by_cases e : k = i
    · subst e
      rw [hS] at hS'
      cases hS'
      exact ⟨_, by rw [← I.ll]; simp, I3⟩
    · obtain ⟨en, h1, h2⟩ := I.cv k S' (by omega) hS'
      exact ⟨en, get_app h1, h2.ext X⟩
  · have hlt := (List.getElem?_eq_some_iff.mp hc).1
    by_cases hcl : c < st.sk.length
    · have h1 := X.sk c _ (List.getElem?_eq_getElem hcl)
      rw [hc] at h1
      cases h1
      obtain ⟨n, S', a, b, d⟩ := I.own c _ (List.getElem?_eq_getElem hcl)
      exact ⟨n, S', get_app a, b, d⟩
    · refine ⟨i, S, ?_, hS, places_new hc (by omega)⟩
      rw [List.getElem?_append_right (by rw [I.ol]; omega), List.getElem?_replicate]
      rw [if_pos (by rw [I.ol]; omega)]
def linksOk (pf : List Int → List (List Int)) (RS : List (List Int)) (st : SS) (links : List (List Nat)) : Prop := links.length = RS.length ∧ ∀ (k : Nat) S, RS[k]? = some S → ∃ en, links[k]? = some en ∧ cvs st 0 (pf S) en
theorem KInv.links {links : List (List Nat)} {ow : List Nat} {st : SS} (I : KInv M pc pf RS RS.length links ow st) : linksOk pf RS st links := ⟨I.ll, fun k S h => I.cv k S (List.getElem?_eq_some_iff.mp h).1 h⟩
theorem linksOk.ext {links : List (List Nat)} {st st' : SS} (h : linksOk pf RS st links) (X : Ext st st') : linksOk pf RS st' links := ⟨h.1, fun k S hS => let ⟨en, a, b⟩ := h.2 k S hS; ⟨en, a, b.ext X⟩⟩
def ownG (pf : List Int → List (List Int)) (RS : List (List Int)) (ow : List Nat) : Nat → List Int → Prop := fun k x => ∃ n S, ow[k]? = some n ∧ RS[n]? = some S ∧ ∃ p ∈ pf S, inS p x = true
theorem KInv.g {i : Nat} {links : List (List Nat)} {ow : List Nat} {st : SS} (I : KInv M pc pf RS i links ow st) : GInv M (ownG pf RS ow) pc [] st := by
  refine ⟨I.inv.base fun k s x h1 _ hx _ => ?_, Nat.zero_le _, (fun k row h => by simp at h), fun e _ c hc => by have := I.e0 c hc; omega⟩
  obtain ⟨n, S, a, b, d⟩ := I.own k s h1
  exact ⟨n, S, a, b, s, d, hx⟩
theorem hist.mono {G G' : List Int → Prop} (h : ∀ x, G x → G' x) : ∀ {js : List Nat} {x : List Int}, hist M G pc x js → hist M G' pc x js
  | [], x, q => ⟨q.1, h x q.2⟩
  | j :: js, x, ⟨q1, d, q2, q3, q4⟩ => ⟨q1, d, q2, q3, hist.mono h q4⟩
end
inductive Fwd (M : Mach) (xs : List (List Int)) : List Int → Prop
  | start {x : List Int} : x ∈ xs → Fwd M xs x
  | step {x : List Int} {j : Nat} {d : Deed} : Fwd M xs x → M.ds[j]? = some d → can d x = true → Fwd M xs (aft d x)
end Tel
namespace Tel
open PySem PySem.Spec L2 DL Msk
structure FInv (M : Mach) (ss xs : List (List Int)) (k : Nat) : Prop where
  nd : xs.Nodup
  ok : ∀ x ∈ xs, Fwd M ss x
  ini : ∀ x ∈ ss, x ∈ xs
  cl : ∀ (i : Nat) x, i < k → xs[i]? = some x → ∀ d ∈ M.ds, can d x = true → aft d x ∈ xs
structure FRow (M : Mach) (ss xs : List (List Int)) (k j : Nat) (x : List Int) : Prop where
  nd : xs.Nodup
  ok : ∀ x ∈ xs, Fwd M ss x
  ini : ∀ x ∈ ss, x ∈ xs
  cl : ∀ (i : Nat) x, i < k → xs[i]? = some x → ∀ d ∈ M.ds, can d x = true → aft d x ∈ xs
  at_ : xs[k]? = some x
  row : ∀ (i : Nat) d, i < j → M.ds[i]? = some d → can d x = true → aft d x ∈ xs
variable {M : Mach} {ss xs : List (List Int)} {k j : Nat} {x : List Int}
theorem FInv.row (h : FInv M ss xs k) (e : xs[k]? = some x) : FRow M ss xs k 0 x := ⟨h.nd, h.ok, h.ini, h.cl, e, fun i d hi => by omega⟩
theorem FRow.done (h : FRow M ss xs k M.ds.length x) : FInv M ss xs (k + 1) := by
  refine ⟨h.nd, h.ok, h.ini, fun i y hi e d hd hc => ?_⟩
  rcases Nat.lt_succ_iff_lt_or_eq.mp hi with q | q
  · exact h.cl i y q e d hd hc
  · subst q
    rw [h.at_] at e
    cases e
    obtain ⟨j, hj, rfl⟩ := List.getElem_of_mem hd
    exact h.row j _ hj (List.getElem?_eq_getElem hj) hc
theorem FRow.put {d : Deed} (h : FRow M ss xs k j x) (hd : M.ds[j]? = some d) (hc : can d x = true) (hs : aft d x ∉ xs) : FRow M ss (xs ++ [aft d x]) k (j + 1) x := by
  have hk := (List.getElem?_eq_some_iff.mp h.at_).1
  refine ⟨?_, fun y hy => ?_, fun y hy => List.mem_append_left _ (h.ini y hy), fun i y hi e d' hd' hc' => ?_, get_app h.at_, fun i d' hi hd' hc' => ?_⟩
  · rw [List.nodup_append]
    refine ⟨h.nd, by simp, ?_⟩
    intro a ha b hb e
    simp at hb
    subst hb
    exact hs (e ▸ ha)
  · rcases List.mem_append.mp hy with q | q
    · exact h.ok y q
    · rw [List.mem_singleton.mp q]
      exact .step (h.ok x (List.mem_of_getElem? h.at_)) hd hc
  · rw [List.getElem?_append_left (by omega)] at e
    exact List.mem_append_left _ (h.cl i y hi e d' hd' hc')
  · rcases Nat.lt_succ_iff_lt_or_eq.mp hi with q | q
    · exact List.mem_append_left _ (h.row i d' q hd' hc')
    · subst q
      rw [hd] at hd'
      cases hd'
      simp
theorem FInv.all (h : FInv M ss xs k) (hk : xs.length ≤ k) : ∀ x, x ∈ xs ↔ Fwd M ss x := by
  refine fun x => ⟨h.ok x, fun r => ?_⟩
  induction r with
  | start a => exact h.ini _ a
  | step r hd hc ih =>
    obtain ⟨i, hi, e⟩ := List.getElem_of_mem ih
    exact h.cl i _ (by omega) (by rw [List.getElem?_eq_getElem hi, e]) _ (List.mem_of_getElem? hd) hc
end Tel
namespace Tel
open PySem PySem.Spec L2 DL Msk
end Tel
namespace DL
end DL
namespace Tel
open PySem PySem.Spec L2 DL Msk
inductive Clo (ini : List Int → Prop) (nx : List Int → List Int → Prop) : List Int → Prop
  | first {x : List Int} : ini x → Clo ini nx x
  | step {x y : List Int} : Clo ini nx x → nx x y → Clo ini nx y
section
variable {ini : List Int → Prop} {nx : List Int → List Int → Prop} {xs : List (List Int)} {k : Nat}
structure CInv (ini : List Int → Prop) (nx : List Int → List Int → Prop) (xs : List (List Int)) (k : Nat) : Prop where
  nd : xs.Nodup
  ok : ∀ x ∈ xs, Clo ini nx x
  ini : ∀ x, ini x → x ∈ xs
  cl : ∀ (i : Nat) x, i < k → xs[i]? = some x → ∀ y, nx x y → y ∈ xs
structure CRow (ini : List Int → Prop) (nx : List Int → List Int → Prop) (xs : List (List Int)) (k : Nat) (x : List Int) (dn : List Int → Prop) : Prop where
  nd : xs.Nodup
  ok : ∀ x ∈ xs, Clo ini nx x
  ini : ∀ x, ini x → x ∈ xs
  cl : ∀ (i : Nat) x, i < k → xs[i]? = some x → ∀ y, nx x y → y ∈ xs
  at_ : xs[k]? = some x
  row : ∀ y, dn y → nx x y → y ∈ xs
theorem CInv.row {x : List Int} (h : CInv ini nx xs k) (e : xs[k]? = some x) : CRow ini nx xs k x fun _ => False := ⟨h.nd, h.ok, h.ini, h.cl, e, fun _ c => c.elim⟩
theorem CRow.done {x : List Int} {dn : List Int → Prop} (h : CRow ini nx xs k x dn) (ha : ∀ y, nx x y → dn y) : CInv ini nx xs (k + 1) :=
  ⟨h.nd, h.ok, h.ini, fun i y hi e z hz => by
    rcases Nat.lt_succ_iff_lt_or_eq.mp hi with q | q
    · exact h.cl i y q e z hz
    · subst q
      rw [h.at_] at e
      cases e
      exact h.row z (ha z hz) hz⟩
theorem CRow.put {x z : List Int} {dn dn' : List Int → Prop} (h : CRow ini nx xs k x dn) (hz : nx x z) (hn : z ∉ xs) (hd : ∀ y, dn' y → dn y ∨ y = z) : CRow ini nx (xs ++ [z]) k x dn' := by
  have hk := (List.getElem?_eq_some_iff.mp h.at_).1
  refine ⟨?_, fun y hy => ?_, fun y hy => List.mem_append_left _ (h.ini y hy), fun i y hi e w hw => ?_, ?_, fun y a b => ?_⟩
  · rw [List.nodup_append]
    refine ⟨h.nd, by simp, fun a ha b hb e => ?_⟩
    rw [List.mem_singleton.mp hb] at e
    exact hn (e ▸ ha)
  · rcases List.mem_append.mp hy with q | q
    · exact h.ok y q
    · rw [List.mem_singleton.mp q]; exact .step (h.ok x (List.mem_of_getElem? h.at_)) hz
  · rw [List.getElem?_append_left (by omega)] at e
    exact List.mem_append_left _ (h.cl i y hi e w hw)
  · rw [List.getElem?_append_left hk]; exact h.at_
  · rcases hd y a with q | q
    · exact List.mem_append_left _ (h.row y q b)
    · rw [q]; simp
theorem CInv.all (h : CInv ini nx xs k) (hk : xs.length ≤ k) : ∀ x, x ∈ xs ↔ Clo ini nx x := fun x => ⟨h.ok x, fun c => by
  induction c with
  | first a => exact h.ini _ a
  | step c hn ih =>
    obtain ⟨i, hi, e⟩ := List.getElem_of_mem ih
    exact h.cl i _ (by omega) (by rw [List.getElem?_eq_getElem hi, e]) _ hn⟩
end
def inG (gd : List (Int × Int)) (x : List Int) : Bool := gd.all fun p => has p.2 (gi x p.1.toNat)
def inC (ps : List Int) (d : Deed) (x : List Int) : Bool := d.g.all fun p => has p.2 (gi x (gi ps p.1).toNat)
theorem movR.can {O I : Mach} {ps : List Int} {gd : List (Int × Int)} {d e : Deed} (h : movR ps gd d e) (x : List Int) : can e x = (inG gd x && inC ps d x) := by
  have : ∀ l : List (Nat × Int), (l.all fun p => has p.2 (gi x p.1)) = (l.map fun p : Nat × Int => ((p.1 : Int), p.2)).all fun p => has p.2 (gi x p.1.toNat) := fun l => by
    rw [List.all_map]
    rfl
  unfold Tel.can
  rw [this, h.gp.all_eq]
  unfold movG inG inC
  rw [List.all_append, List.all_map, Bool.and_comm]
  rfl
end Tel
namespace Tel
open PySem PySem.Spec L2 DL Msk
def okD (n : Nat) (d : D) : Prop := d.py.canLay0 = true ∧ d.py.depth ≤ n
theorem okD.mono {n m : Nat} {d : D} (h : okD n d) (k : n ≤ m) : okD m d := ⟨h.1, Nat.le_trans h.2 k⟩
theorem okDs : ∀ {n : Nat} {ds : List D}, (∀ d ∈ ds, okD n d) → PyData.canLayAll0 (D.pys ds) = true ∧ PyData.depthAll (D.pys ds) ≤ n
  | n, [], _ => ⟨rfl, Nat.zero_le _⟩
  | n, d :: ds, h => by
    have h1 := h d (by simp)
    have h2 := okDs (n := n) (ds := ds) fun e he => h e (by simp [he])
    simp only [D.pys, PyData.canLayAll0, PyData.depthAll, Bool.and_eq_true]
    exact ⟨⟨h1.1, h2.1⟩, Nat.max_le.mpr ⟨h1.2, h2.2⟩⟩
theorem okD.tup {n : Nat} {ds : List D} (h : ∀ d ∈ ds, okD n d) : okD (n + 1) (.tup ds) := ⟨(okDs h).1, Nat.succ_le_succ (okDs h).2⟩
theorem okD.lst {n : Nat} {ds : List D} (h : ∀ d ∈ ds, okD n d) : okD (n + 1) (.lst ds) := ⟨(okDs h).1, Nat.succ_le_succ (okDs h).2⟩
theorem okD.int {n : Nat} (i : Int) : okD n (.int i) := ⟨rfl, Nat.zero_le _⟩
theorem okD.bl {n : Nat} (b : Bool) : okD n (.bl b) := ⟨rfl, Nat.zero_le _⟩
theorem okD.non {n : Nat} : okD n .non := ⟨rfl, Nat.zero_le _⟩
theorem okD.str {n : Nat} {x : Str} (h : PyData.canLay0 (.str x) = true) : okD n (.str x) := ⟨h, Nat.zero_le _⟩
theorem okD.tupI {l : List Int} : okD 1 (DL.tupI l) := .tup fun d hd => by
  obtain ⟨i, _, rfl⟩ := List.mem_map.mp hd
  exact .int i
theorem okD.same {n : Nat} {d : D} (h : okD n d) (hn : n ≤ 64) : SeqAt.shaped d.py = true ∧ PyData.eqv d.py d.py = true := by
  refine ⟨?_, PySem.SeqAt.eqv_refl _ h.1⟩
  unfold SeqAt.shaped
  rw [Bool.and_eq_true]
  exact ⟨h.1, by have := h.2; simp; omega⟩
theorem neSame {n : Nat} {d : D} (h : okD n d) (hn : n ≤ 64) : dNe d d (.fz (.bl false)) := ⟨true, .inr ⟨(h.same hn).1, (h.same hn).1, (h.same hn).2.symm⟩, rfl⟩
theorem eqSame {n : Nat} {d : D} (h : okD n d) (hn : n ≤ 64) : dEq d d (.fz (.bl true)) := ⟨true, .inr ⟨(h.same hn).1, (h.same hn).1, (h.same hn).2.symm⟩, rfl⟩
end Tel
namespace DL
open PySem PySem.Spec L2
def asS (x : D) (k : Str → Prop) (l : Lock k) : Prop := match x with
  | .str b => k b
  | _ => False
theorem asS_s {b : Str} {k : Str → Prop} {l} : asS (.str b) k l = k b := rfl
theorem isStr_eq {ox : Option D} {Q : Str → Prop} : (∃ b, ox = some (.str b) ∧ Q b) = wD ox (fun x => asS x Q .mk) .mk := by
  cases ox with
  | none => simp [wD]
  | some x => cases x <;> simp [wD, asS]
def dFmt : D → M → Prop
  | .str y, z => y.length ≤ sizeLine ∧ z = .fz (.str y)
  | .int i, z => i.natAbs.log2 < 1920 ∧ z = .fz (.str (Str.ofString (toString i)))
  | _, _ => False
def mJs : List TD → Str → DSt → (Str → DSt → Prop) → Prop
  | [], acc, s, Q => Q acc s
  | m :: ms, acc, s, Q => m s fun w s1 => ∃ y, res s1 w = some (.str y) ∧ (acc ++ y).length ≤ sizeLine ∧ mJs ms (acc ++ y) s1 Q
def mJoined (ms : List TD) : TD := fun s Q => mJs ms Str.empty s fun out s1 => Q (.val (.fz (.str out))) s1
section
variable {Z : ZX} {X : Cx} {pos : Pos}
inductive DJs (Z : ZX) (X : Cx) : List Expr → List TE → List TD → Prop
  | nil : DJs Z X [] [] []
  | cons {e : Expr} {t : TE} {m : TD} {es : List Expr} {ts : List TE} {ms : List TD} : DE Z X e t m → DJs Z X es ts ms → DJs Z X (e :: es) (t :: ts) (m :: ms)
theorem DJs.pj {es : List Expr} {ts : List TE} {ms : List TD} (h : DJs Z X es ts ms) : PJ X es ts := by
  induction h with
  | nil => exact .nil
  | cons a _ ih => exact .cons a.pe ih
theorem Lift.fmt {t : TE} {m : TD} (l : Lift Z t m) : Lift Z (tFmt t) (mUn dFmt m) := by
  intro σ H F A s Q Qd R h k
  refine l σ H F A s _ _ R h fun w s1 v F1 H1 Aa A1 h1 o1 => ?_
  obtain ⟨x, z, ex, hz, q⟩ := h1
  obtain ⟨m1, C1, w1, rfl⟩ := o1.wow.res o1.own ex
  generalize e : m1.frz = d at hz
  have hx : Frm F H A F1 H1 (([] : List Addr) ++ A1) := o1.fr.weak fun a h => by simpa using List.mem_append_right _ (by simpa using h)
  have fin : ∀ u d', z = .fz d' → Fz Z.K F1 u d' → Q u H1 := fun u d' ez zu => by
    subst ez
    exact k _ _ u F1 H1 [] A1 q (Out.fin (B := Aa) o1.fr o1.own o1.nd Frm.refl o1.sub (.fz zu) List.nodup_nil)
  cases d with
  | str y =>
    obtain ⟨hl, ez⟩ := hz
    exact .inl ⟨y, w1.strV e, hl, fin _ _ ez (.str _)⟩
  | int i =>
    obtain ⟨hl, ez⟩ := hz
    exact .inr ⟨i, w1.intV e, hl, fin _ _ ez (.str _)⟩
  | _ => exact hz.elim
theorem js_lift {es : List Expr} {ts : List TE} {ms : List TD} (h : DJs Z X es ts ms) : ∀ (acc : Str) (σ : L2.St) (H F : Hp) (A : List Addr) (s : DSt) (Q : Str → Hp → Prop) (Qd : Str → DSt → Prop), Rel Z F H σ s A → mJs ms acc s Qd →
    (∀ out s' F' H' A', Qd out s' → OutT Z.K F H A σ s' F' H' A' → Q out H') → tJs ts acc σ H Q := by
  induction h with
  | nil => intro acc σ H F A s Q Qd R h k; exact k acc s F H A h ⟨Frm.refl, R.sub, R.own, R.nd⟩
  | cons a _ ih =>
    intro acc σ H F A s Q Qd R h k
    refine a.lf σ H F A s _ _ R h fun w s1 v F1 H1 Aa A1 h1 o1 => ?_
    obtain ⟨y, ex, hl, h1⟩ := h1
    obtain ⟨m1, C1, w1, em⟩ := o1.wow.res o1.own ex
    refine ⟨y, w1.strV em, hl, ih (acc ++ y) σ H1 F1 A1 s1 Q Qd (o1.rel R) h1 fun out s' F' H' A' q o2 => k out s' F' H' A' q (o1.t.trans o2)⟩
theorem de_fmt {e : Expr} {t : TE} {m : TD} (h : DE Z X e t m) : DE Z X (.FormattedValue e (-1) none pos) (tFmt t) (mUn dFmt m) := ⟨pe_fmt h.pe, .fmt h.lf⟩
theorem de_joined {v1 v2 : Expr} {rest : List Expr} {ts : List TE} {ms : List TD} (h : DJs Z X (v1 :: v2 :: rest) ts ms) : DE Z X (.JoinedStr (v1 :: v2 :: rest) pos) (fun σ H Q => tJs ts Str.empty σ H fun out H1 => Q (.str out) H1) (mJoined ms) := by
  refine ⟨pe_joined h.pj, ?_⟩
  intro σ H F A s Q Qd R hq k
  refine js_lift h Str.empty σ H F A s _ _ R hq fun out s' F' H' A' q o => ?_
  exact k _ _ _ F' H' [] A' q ⟨o.fr, o.sub, .val (.fz (.str _)), o.own, o.nd⟩
end
section
variable {s : DSt} {m : TD} {ms : List TD} {acc : Str} {k : M → Prop} {l : Lock k}
theorem s_js0 {Q} : mJs [] acc s Q = Q acc s := rfl
theorem s_js1 {Q} : mJs (m :: ms) acc s Q = m s fun w s1 => wD (res s1 w) (fun x => asS x (fun y => (acc ++ y).length ≤ sizeLine ∧ mJs ms (acc ++ y) s1 Q) .mk) .mk := by
  show (m s fun w s1 => ∃ y, res s1 w = some (.str y) ∧ (acc ++ y).length ≤ sizeLine ∧ mJs ms (acc ++ y) s1 Q) = _
  simp only [isStr_eq]
theorem s_joined {Q} : mJoined ms s Q = mJs ms Str.empty s fun out s1 => Q (.val (.fz (.str out))) s1 := rfl
theorem o_fmtS {y : Str} : opz (dFmt (.str y)) k l = (y.length ≤ sizeLine ∧ k (.fz (.str y))) := opz_and _ rfl
theorem o_fmtI {i : Int} : opz (dFmt (.int i)) k l = (i.natAbs.log2 < 1920 ∧ k (.fz (.str (Str.ofString (toString i))))) := opz_and _ rfl
end
theorem qfd : type_of% @s_js0 ∧ type_of% @s_js1 ∧ type_of% @s_joined := ⟨@s_js0, @s_js1, @s_joined⟩
theorem qfu : type_of% @asS_s ∧ type_of% @o_fmtS ∧ type_of% @o_fmtI := ⟨@asS_s, @o_fmtS, @o_fmtI⟩
end DL
namespace DL
open PySem PySem.Spec L2
def isS (o : Option D) : Prop := match o with
  | some (.str _) => True
  | _ => False
theorem isS_s {a : Str} : isS (some (.str a)) = True := rfl
def mM1 (f : D → D → M → Prop) (mo me : TD) : TD := fun s Q => mo s fun w s1 => isS (res s1 w) ∧ me s1 fun w' s2 => ∃ x y z, res s2 w = some x ∧ res s2 w' = some y ∧ f x y z ∧ Q (.val z) s2
def mM0 (f : D → M → Prop) (mo : TD) : TD := fun s Q => mo s fun w s1 => ∃ x z, res s1 w = some x ∧ f x z ∧ Q (.val z) s1
def TxD (K : PySem.W.Frag) (r : V → List V → Hp → VK → Prop) (f : D → D → M → Prop) : Prop := ∀ (F H : Hp) (x y : V) (m1 m2 : M) (B1 B2 : List Addr) (z : M) (Q : VK), Sub F H → Ow K F H x m1 B1 → Ow K F H y m2 B2 → f m1.frz m2.frz z →
  (∀ v F' H' Av, Frm F H [] F' H' Av → Sub F' H' → Ow K F' H' v z Av → Av.Nodup → Q v H') → r x [y] H Q
def TxD0 (K : PySem.W.Frag) (r : V → List V → Hp → VK → Prop) (f : D → M → Prop) : Prop := ∀ (F H : Hp) (x : V) (m1 : M) (B1 : List Addr) (z : M) (Q : VK), Sub F H → Ow K F H x m1 B1 → f m1.frz z →
  (∀ v F' H' Av, Frm F H [] F' H' Av → Sub F' H' → Ow K F' H' v z Av → Av.Nodup → Q v H') → (∃ a, x = .str a) ∧ r x [] H Q
section
variable {Z : ZX} {X : Cx} {K : PySem.W.Frag}
theorem Lift.m1 {r : V → List V → Hp → VK → Prop} {f : D → D → M → Prop} {to te : TE} {mo me : TD} (ho : TxD Z.K r f) (lo : Lift Z to mo) (le : Lift Z te me) : Lift Z (tM1 r to te) (mM1 f mo me) := by
  intro σ H F A s Q Qd R h k
  refine lo σ H F A s _ _ R h fun wa s1 va F1 H1 Aa A1 h1 o1 => ?_
  obtain ⟨hs, h1⟩ := h1
  have hv : ∃ a, va = .str a := by
    cases e : res s1 wa with
    | none => rw [e] at hs; exact hs.elim
    | some d =>
      rw [e] at hs
      cases d with
      | str a =>
        obtain ⟨m, C, w, em⟩ := o1.wow.res o1.own e
        exact ⟨a, w.strV em⟩
      | _ => exact hs.elim
  refine ⟨hv, le σ H1 F1 A1 s1 _ _ (o1.rel R) h1 fun wb s2 vb F2 H2 Ab A2 h2 o2 => ?_⟩
  obtain ⟨x, y, z, ex, ey, hz, q⟩ := h2
  have p := o1.seq o2
  obtain ⟨m1, C1, w1, rfl⟩ := p.wa.res p.own ex
  obtain ⟨m2, C2, w2, rfl⟩ := p.wb.res p.own ey
  exact ho F2 H2 va vb m1 m2 C1 C2 z Q p.sub w1 w2 hz fun v F' H' Av g sb ow nv => k _ _ _ _ _ _ _ q (Out.fin p.fr p.own p.nd g sb ow nv)
theorem Lift.m0 {r : V → List V → Hp → VK → Prop} {f : D → M → Prop} {to : TE} {mo : TD} (ho : TxD0 Z.K r f) (lo : Lift Z to mo) : Lift Z (tM0 r to) (mM0 f mo) := by
  intro σ H F A s Q Qd R h k
  refine lo σ H F A s _ _ R h fun wa s1 va F1 H1 Aa A1 h1 o1 => ?_
  obtain ⟨x, z, ex, hz, q⟩ := h1
  obtain ⟨m1, C1, w1, rfl⟩ := o1.wow.res o1.own ex
  exact ho F1 H1 va m1 C1 z Q o1.sub w1 hz fun v F' H' Av g sb ow nv => k _ _ _ _ _ _ _ q (Out.fin o1.fr o1.own o1.nd g sb ow nv)
def dSplit : D → D → M → Prop
  | .str a, .str b, z => (b.length == 0) = false ∧ a.length + 2 ≤ sizeLine ∧ z = .ml ((Txt.split a b).map .str)
  | _, _, _ => False
def dStarts : D → D → M → Prop
  | .str a, .str b, z => z = .fz (.bl (Txt.startswith a b))
  | _, _, _ => False
def dEndsW : D → D → M → Prop
  | .str a, .str b, z => z = .fz (.bl (Txt.endswith a b))
  | _, _, _ => False
def dFindS : D → D → M → Prop
  | .str a, .str b, z => z = .fz (.int (Txt.find a b))
  | _, _, _ => False
def dCountS : D → D → M → Prop
  | .str a, .str b, z => z = .fz (.int (Txt.count a b))
  | _, _, _ => False
def dIndexS : D → D → M → Prop
  | .str a, .str b, z => ∃ i rest, Builtin.Str.occurrences a b 0 a.length 1 = i :: rest ∧ z = .fz (.int (i : Nat))
  | _, _, _ => False
def dWords : D → M → Prop
  | .str a, z => a.length + 2 ≤ sizeLine ∧ z = .ml ((Txt.words a).map .str)
  | _, _ => False
def dStrip : D → M → Prop
  | .str a, z => a.length ≤ sizeLine ∧ z = .fz (.str (Txt.strip a))
  | _, _ => False
theorem TxD.flat {r : V → List V → Hp → VK → Prop} {f : D → D → M → Prop} (h : ∀ (H : Hp) (d e : D) (z : M) (Q : VK), f d e z → ∃ a b, d = .str a ∧ e = .str b ∧ ∃ d', z = .fz d' ∧ ∃ u, (∀ F, Fz K F u d') ∧ (Q u H → r (.str a) [.str b] H Q)) : TxD K r f := by
  intro F H x y m1 m2 B1 B2 z Q sb w1 w2 hz k
  obtain ⟨a, b, e1, e2, d', rfl, u, zu, q⟩ := h H _ _ z Q hz
  rw [w1.strV e1, w2.strV e2]
  exact q (k u F H [] Frm.refl sb (.fz (zu F)) List.nodup_nil)
variable {o e : Expr} {to te : TE} {mo me : TD} {apos pos : Pos}
end
section
variable {s : DSt} {mo me : TD} {f : D → D → M → Prop} {g : D → M → Prop} {k : M → Prop} {l : Lock k}
theorem s_m1 {Q} : mM1 f mo me s Q = mo s fun w s1 => isS (res s1 w) ∧ me s1 fun w' s2 => wD (res s2 w) (fun x => wD (res s2 w') (fun y => opz (f x y) (fun z => Q (.val z) s2) .mk) .mk) .mk := by
  unfold mM1
  simp only [op2_eq]
theorem s_m0 {Q} : mM0 g mo s Q = mo s fun w s1 => wD (res s1 w) (fun x => opz (g x) (fun z => Q (.val z) s1) .mk) .mk := by
  unfold mM0
  simp only [op1_eq]
theorem o_split {a b : Str} : opz (dSplit (.str a) (.str b)) k l = (((b.length == 0) = false ∧ a.length + 2 ≤ sizeLine) ∧ k (.ml ((Txt.split a b).map .str))) := opz_and _ (by funext z; simp [dSplit, and_assoc])
theorem o_starts {a b : Str} : opz (dStarts (.str a) (.str b)) k l = k (.fz (.bl (Txt.startswith a b))) := opz_one _ rfl
theorem o_ends {a b : Str} : opz (dEndsW (.str a) (.str b)) k l = k (.fz (.bl (Txt.endswith a b))) := opz_one _ rfl
theorem o_findS {a b : Str} : opz (dFindS (.str a) (.str b)) k l = k (.fz (.int (Txt.find a b))) := opz_one _ rfl
theorem o_countS {a b : Str} : opz (dCountS (.str a) (.str b)) k l = k (.fz (.int (Txt.count a b))) := opz_one _ rfl
theorem o_indexS {a b : Str} : opz (dIndexS (.str a) (.str b)) k l = wD (Builtin.Str.occurrences a b 0 a.length 1).head? (fun i => k (.fz (.int (i : Nat)))) .mk := by
  unfold opz dIndexS
  cases h : Builtin.Str.occurrences a b 0 a.length 1 with
  | nil =>
    refine propext ⟨?_, fun h => h.elim⟩
    rintro ⟨z, ⟨i, r, e, _⟩, _⟩
    rw [h] at e
    cases e
  | cons i r =>
    refine propext ⟨?_, fun q => ⟨_, ⟨i, r, h, rfl⟩, q⟩⟩
    rintro ⟨z, ⟨j, r', e, rfl⟩, q⟩
    rw [h] at e
    cases e
    exact q
theorem o_words {a : Str} : opz (dWords (.str a)) k l = (a.length + 2 ≤ sizeLine ∧ k (.ml ((Txt.words a).map .str))) := opz_and _ rfl
theorem o_strip {a : Str} : opz (dStrip (.str a)) k l = (a.length ≤ sizeLine ∧ k (.fz (.str (Txt.strip a)))) := opz_and _ rfl
theorem o_intS {a : Str} {n : Int} (h : intText? a = some n) : opz (dInt (.str a)) k l = (a.length ≤ 640 ∧ k (.fz (.int n))) := by
  unfold opz dInt
  refine propext ⟨?_, fun ⟨h1, h2⟩ => ⟨_, ⟨h1, n, h, rfl⟩, h2⟩⟩
  rintro ⟨z, ⟨h1, n', h', rfl⟩, q⟩
  rw [h] at h'
  cases h'
  exact ⟨h1, q⟩
end
theorem qtd : type_of% @s_m1 ∧ type_of% @s_m0 := ⟨@s_m1, @s_m0⟩
theorem qtu : (type_of% @isS_s ∧ type_of% @o_split ∧ type_of% @o_starts ∧ type_of% @o_ends) ∧ (type_of% @o_findS ∧ type_of% @o_countS ∧ type_of% @o_indexS ∧ type_of% @o_words ∧ type_of% @o_strip) := ⟨⟨@isS_s, @o_split, @o_starts, @o_ends⟩, @o_findS, @o_countS, @o_indexS, @o_words, @o_strip⟩
end DL
namespace Tel
open PySem PySem.Spec L2 DL Msk
def dig (n : Nat) : Str := Str.ofString (toString (n : Int))
def nmOf (c : Str) (ds : List Nat) : Str := ds.foldl (fun s n => s ++ dig n) (Str.empty ++ c)
def bDeed (n x : Nat) : Deed := ⟨nmOf "b" [n, x], [(3, 1)], [(n, .set x), (3, .set (1 + n))]⟩
def eDeed (v f s : Nat) : Deed := ⟨nmOf "e" [f, s], [(0, 1 * 2 ^ f), (1, 1 * 2 ^ s), (3, 6)], [(2, .set (((f + s) % v : Nat) : Int)), (3, .set 0)]⟩
def rG (n o p : Nat) : List (Nat × Int) := [(1 - n, 1 * 2 ^ o), (2, 1 * 2 ^ p), (3, 1)]
def rDeed (v n o p : Nat) : Deed := ⟨nmOf "r" [n, o, p], rG n o p, [(n, .set (((p + v - o) % v : Nat) : Int))]⟩
def bDs (v : Nat) : List Deed := (List.range 2).flatMap fun n => (List.range v).map fun x => bDeed n x
def eDs (v : Nat) : List Deed := (List.range v).flatMap fun f => (List.range v).map fun s => eDeed v f s
def rDs (v : Nat) : List Deed := (List.range 2).flatMap fun n => (List.range v).flatMap fun o => (List.range v).map fun p => rDeed v n o p
def SM (v : Nat) : Mach := ⟨[("d0", (v : Int)), ("d1", (v : Int)), ("p", (v : Int)), ("w", 3)], bDs v ++ eDs v ++ rDs v, [1, 1, 1, 1]⟩
def srcB (sz : List Int) (p : Nat × Src) : Bool := match p.2 with
  | .set v => decide (0 ≤ v) && decide (v < gi sz p.1)
  | .copy n => decide (n < sz.length) && decide (gi sz n ≤ gi sz p.1)
instance {sz : List Int} {g : List (Nat × Int)} : Decidable (wfG sz g) := by unfold wfG; infer_instance
def wfDB (sz : List Int) (d : Deed) : Bool := decide (wfG sz d.g) && (decide ((d.c.map (·.1)).Pairwise (· < ·)) && d.c.all fun p => decide (p.1 < sz.length) && srcB sz p)
theorem wfDB_ok {sz : List Int} {d : Deed} (h : wfDB sz d = true) : wfD sz d := by
  unfold wfDB at h
  rw [Bool.and_eq_true, Bool.and_eq_true] at h
  refine ⟨of_decide_eq_true h.1, of_decide_eq_true h.2.1, fun p hp => ?_⟩
  have := List.all_eq_true.mp h.2.2 p hp
  rw [Bool.and_eq_true] at this
  refine ⟨of_decide_eq_true this.1, ?_⟩
  have h2 := this.2
  unfold srcB at h2
  obtain ⟨k, e⟩ := p
  cases e with
  | set v => simp only [Bool.and_eq_true, decide_eq_true_eq] at h2; exact h2
  | copy n => simp only [Bool.and_eq_true, decide_eq_true_eq] at h2; exact h2
instance {sz : List Int} {S : List Int} : Decidable (sk sz S) := by unfold sk; infer_instance
instance {sz : List Int} {S : List Int} : Decidable (dk sz S) := by unfold dk; infer_instance
instance {sz : List Int} : Decidable (wfS sz) := by unfold wfS; infer_instance
theorem SM_ok {v : Nat} (h : v = 2 ∨ v = 3) : (SM v).ok := by
  rcases h with rfl | rfl
  · exact ⟨⟨by decide, fun d hd => wfDB_ok (List.all_eq_true.mp (show (SM 2).ds.all (wfDB (SM 2).sz) = true by decide +kernel) d hd), by decide⟩, by decide +kernel, by decide +kernel, by decide +kernel, by decide +kernel, by decide +kernel⟩
  · exact ⟨⟨by decide, fun d hd => wfDB_ok (List.all_eq_true.mp (show (SM 3).ds.all (wfDB (SM 3).sz) = true by decide +kernel) d hd), by decide⟩, by decide +kernel, by decide +kernel, by decide +kernel, by decide +kernel, by decide +kernel⟩
theorem SM_sz {v : Nat} : (SM v).sz = [(v : Int), v, v, 3] := rfl
def par (v : Nat) (x : List Int) : Bool := gi x 3 != 0 || gi x 2 == (gi x 0 + gi x 1) % v
end Tel
namespace Tel
open PySem PySem.Spec L2 DL Msk
theorem v25 {v : Nat} (h : 2 ≤ v ∧ v ≤ 5) : v = 2 ∨ v = 3 ∨ v = 4 ∨ v = 5 := by omega
theorem SM_ok5 {v : Nat} (h : 2 ≤ v ∧ v ≤ 5) : (SM v).ok := by
  rcases v25 h with rfl | rfl | rfl | rfl
  · exact SM_ok (.inl rfl)
  · exact SM_ok (.inr rfl)
  · exact ⟨⟨by decide, fun d hd => wfDB_ok (List.all_eq_true.mp (show (SM 4).ds.all (wfDB (SM 4).sz) = true by decide +kernel) d hd), by decide⟩, by decide +kernel, by decide +kernel, by decide +kernel, by decide +kernel, by decide +kernel⟩
  · exact ⟨⟨by decide, fun d hd => wfDB_ok (List.all_eq_true.mp (show (SM 5).ds.all (wfDB (SM 5).sz) = true by decide +kernel) d hd), by decide⟩, by decide +kernel, by decide +kernel, by decide +kernel, by decide +kernel, by decide +kernel⟩
theorem SM_able5 {v : Nat} (h : 2 ≤ v ∧ v ≤ 5) : ∀ x ∈ allDk (SM v).sz, ((SM v).ds.any fun d => can d x) = true := by rcases v25 h with rfl | rfl | rfl | rfl <;> decide +kernel
theorem SM_par5 {v : Nat} (h : 2 ≤ v ∧ v ≤ 5) : ∀ x ∈ allDk (SM v).sz, ∀ d ∈ (SM v).ds, can d x = true → par v x = true → par v (aft d x) = true := by rcases v25 h with rfl | rfl | rfl | rfl <;> decide +kernel
end Tel
namespace K45
open PySem PySem.Spec L2 DL Msk Tel
def top (i : Nat) : Stmt := PySem.Challenge.pw_wreckhouse_k45_stripes.main.body.getD i (.Pass ⟨0, 0, 0, 0⟩)
abbrev s_is_name : Stmt := top 18
abbrev N_is_name : List Str := ["text", "char"]
abbrev s__check_names : Stmt := top 19
abbrev N__check_names : List Str := ["names", "name"]
abbrev s_is_mask : Stmt := top 20
abbrev N_is_mask : List Str := ["mask", "size"]
abbrev s__check_order : Stmt := top 21
abbrev N__check_order : List Str := ["pairs", "count", "before", "cell", "_"]
abbrev s_Machine_init : Stmt := inClass (top 22) 0
abbrev N_Machine_init : List Str := ["self", "cells", "deeds", "first", "sizes", "_", "guard", "changes", "size", "name", "deed", "mask"]
abbrev s_Machine__check_deed : Stmt := inClass (top 22) 1
abbrev N_Machine__check_deed : List Str := ["self", "sizes", "guard", "changes", "cell", "mask", "kind", "number"]
abbrev s_check_disk : Stmt := top 23
abbrev N_check_disk : List Str := ["machine", "disk", "value", "_", "size"]
abbrev s_check_deed : Stmt := top 24
abbrev N_check_deed : List Str := ["machine", "deed"]
abbrev s__guard_holds : Stmt := top 25
abbrev N__guard_holds : List Str := ["machine", "disk", "deed", "cell", "mask"]
abbrev s__changed : Stmt := top 26
abbrev N__changed : List Str := ["machine", "disk", "deed", "values", "cell", "kind", "number"]
abbrev s_can_do : Stmt := top 27
abbrev N_can_do : List Str := ["machine", "disk", "deed"]
abbrev s_after : Stmt := top 28
abbrev N_after : List Str := ["machine", "disk", "deed"]
abbrev s_check_range : Stmt := top 30
abbrev N_check_range : List Str := ["number", "least", "greatest"]
abbrev s_one : Stmt := top 31
abbrev N_one : List Str := ["value"]
abbrev s_set_to : Stmt := top 32
abbrev N_set_to : List Str := ["cell", "value"]
abbrev s_check_value : Stmt := top 33
abbrev N_check_value : List Str := ["form", "value"]
abbrev s_StripeForm_init : Stmt := inClass (top 39) 0
abbrev N_StripeForm_init : List Str := ["self", "alphabet"]
abbrev s__begin_deeds : Stmt := top 40
abbrev N__begin_deeds : List Str := ["form", "deeds", "number", "value", "changes"]
abbrev s__end_deeds : Stmt := top 41
abbrev N__end_deeds : List Str := ["form", "deeds", "first", "second", "guard", "changes"]
abbrev s__rebuild_deeds : Stmt := top 42
abbrev N__rebuild_deeds : List Str := ["form", "deeds", "number", "other", "parity", "guard", "changes"]
abbrev s_stripe_machine : Stmt := top 43
abbrev N_stripe_machine : List Str := ["form", "cells", "deeds"]
abbrev s__check_number : Stmt := top 44
abbrev N__check_number : List Str := ["number"]
abbrev s_stripe_begin : Stmt := top 45
abbrev N_stripe_begin : List Str := ["form", "disk", "number", "value", "values"]
abbrev s_stripe_end : Stmt := top 46
abbrev N_stripe_end : List Str := ["form", "disk"]
abbrev s_stripe_rebuild : Stmt := top 47
abbrev N_stripe_rebuild : List Str := ["form", "disk", "number", "values"]
abbrev s__law_cell : Stmt := top 49
abbrev N__law_cell : List Str := ["script", "k"]
abbrev s__law_mix : Stmt := top 50
abbrev N__law_mix : List Str := ["cell", "k", "number"]
abbrev s__law_stripe : Stmt := top 51
abbrev N__law_stripe : List Str := ["values", "disk", "name", "letter", "digits", "made", "char"]
abbrev s__law_names : Stmt := top 52
abbrev N__law_names : List Str := ["values", "names", "number", "first", "other", "value", "second", "parity"]
abbrev s__law_tried : Stmt := top 53
abbrev N__law_tried : List Str := ["form", "disk", "question", "number", "value", "e", "found"]
abbrev s__law_is_right : Stmt := top 54
abbrev N__law_is_right : List Str := ["form", "values", "disk", "value", "room", "number", "ended", "bad", "begun", "built"]
abbrev s_law : Stmt := top 55
abbrev N_law : List Str := ["script", "values", "e", "machine", "names", "cells", "k", "disk", "form", "other", "number", "step", "able", "due", "deed", "j"]
theorem lk_Machine_cells {d0 d1 d2 : D} : List.lookup ("cells" : Str) ([("cells", d0), ("deeds", d1), ("first", d2)] : List (Str × D)) = some d0 := rfl
theorem mg_Machine_cells {y0 y1 y2 : FV} : MF.get (.cons "cells" y0 (.cons "deeds" y1 (.cons "first" y2 .nil))) "cells" = some y0 := rfl
theorem pt_Machine_cells {y0 y1 y2 z : FV} : MF.put (.cons "cells" y0 (.cons "deeds" y1 (.cons "first" y2 .nil))) "cells" z = (.cons "cells" z (.cons "deeds" y1 (.cons "first" y2 .nil))) := rfl
theorem lk_Machine_deeds {d0 d1 d2 : D} : List.lookup ("deeds" : Str) ([("cells", d0), ("deeds", d1), ("first", d2)] : List (Str × D)) = some d1 := rfl
theorem mg_Machine_deeds {y0 y1 y2 : FV} : MF.get (.cons "cells" y0 (.cons "deeds" y1 (.cons "first" y2 .nil))) "deeds" = some y1 := rfl
theorem pt_Machine_deeds {y0 y1 y2 z : FV} : MF.put (.cons "cells" y0 (.cons "deeds" y1 (.cons "first" y2 .nil))) "deeds" z = (.cons "cells" y0 (.cons "deeds" z (.cons "first" y2 .nil))) := rfl
theorem pp_Machine_deeds {y0 z : FV} : MF.put (.cons "cells" y0 .nil) "deeds" z = (.cons "cells" y0 (.cons "deeds" z .nil)) := rfl
theorem lk_Machine_first {d0 d1 d2 : D} : List.lookup ("first" : Str) ([("cells", d0), ("deeds", d1), ("first", d2)] : List (Str × D)) = some d2 := rfl
theorem mg_Machine_first {y0 y1 y2 : FV} : MF.get (.cons "cells" y0 (.cons "deeds" y1 (.cons "first" y2 .nil))) "first" = some y2 := rfl
theorem pt_Machine_first {y0 y1 y2 z : FV} : MF.put (.cons "cells" y0 (.cons "deeds" y1 (.cons "first" y2 .nil))) "first" z = (.cons "cells" y0 (.cons "deeds" y1 (.cons "first" z .nil))) := rfl
theorem pp_Machine_first {y0 y1 z : FV} : MF.put (.cons "cells" y0 (.cons "deeds" y1 .nil)) "first" z = (.cons "cells" y0 (.cons "deeds" y1 (.cons "first" z .nil))) := rfl
theorem lk_Machine__check_deed {d0 d1 d2 : D} : List.lookup ("_check_deed" : Str) ([("cells", d0), ("deeds", d1), ("first", d2)] : List (Str × D)) = none := rfl
theorem lk_Machine_cell {d0 d1 d2 : D} : List.lookup ("cell" : Str) ([("cells", d0), ("deeds", d1), ("first", d2)] : List (Str × D)) = none := rfl
theorem lk_Machine_deed {d0 d1 d2 : D} : List.lookup ("deed" : Str) ([("cells", d0), ("deeds", d1), ("first", d2)] : List (Str × D)) = none := rfl
theorem lk_Machine_full {d0 d1 d2 : D} : List.lookup ("full" : Str) ([("cells", d0), ("deeds", d1), ("first", d2)] : List (Str × D)) = none := rfl
theorem lk_StripeForm_alphabet {d0 : D} : List.lookup ("alphabet" : Str) ([("alphabet", d0)] : List (Str × D)) = some d0 := rfl
theorem mg_StripeForm_alphabet {y0 : FV} : MF.get (.cons "alphabet" y0 .nil) "alphabet" = some y0 := rfl
theorem pt_StripeForm_alphabet {y0 z : FV} : MF.put (.cons "alphabet" y0 .nil) "alphabet" z = (.cons "alphabet" z .nil) := rfl
theorem qc : ((((type_of% @lk_Machine_cells ∧ type_of% @mg_Machine_cells) ∧ (type_of% @pt_Machine_cells ∧ type_of% @lk_Machine_deeds)) ∧ ((type_of% @mg_Machine_deeds ∧ type_of% @pt_Machine_deeds) ∧ (type_of% @pp_Machine_deeds ∧ (type_of% @lk_Machine_first ∧ type_of% @mg_Machine_first)))) ∧ (((type_of% @pt_Machine_first ∧ type_of% @pp_Machine_first) ∧ (type_of% @lk_Machine__check_deed ∧ type_of% @lk_Machine_cell)) ∧ ((type_of% @lk_Machine_deed ∧ type_of% @lk_Machine_full) ∧ (type_of% @lk_StripeForm_alphabet ∧ (type_of% @mg_StripeForm_alphabet ∧ type_of% @pt_StripeForm_alphabet))))) := ⟨⟨⟨⟨@lk_Machine_cells, @mg_Machine_cells⟩, ⟨@pt_Machine_cells, @lk_Machine_deeds⟩⟩, ⟨⟨@mg_Machine_deeds, @pt_Machine_deeds⟩, ⟨@pp_Machine_deeds, ⟨@lk_Machine_first, @mg_Machine_first⟩⟩⟩⟩, ⟨⟨⟨@pt_Machine_first, @pp_Machine_first⟩, ⟨@lk_Machine__check_deed, @lk_Machine_cell⟩⟩, ⟨⟨@lk_Machine_deed, @lk_Machine_full⟩, ⟨@lk_StripeForm_alphabet, ⟨@mg_StripeForm_alphabet, @pt_StripeForm_alphabet⟩⟩⟩⟩⟩
structure Txt (K : PySem.W.Frag) (mg : Str → Option Value) (P : Program) (w : World) (C_WreckError : Addr) (C_InvalidMachine : Addr) (C_InvalidDisk : Addr) (C_InvalidSketch : Addr) (C_NoSuchDeed : Addr) (C_CannotDo : Addr) (C_InvalidForm : Addr) (C_InvalidFile : Addr) (C_NoRoom : Addr) (C_Machine : Addr) (C_StripeForm : Addr) : Prop where
  s_CannotDo : SupC P w K mg "CannotDo" C_CannotDo "position" "the deed cannot be done at index "
  x_WreckError : ExcC K mg "WreckError" C_WreckError
  x_InvalidMachine : ExcC K mg "InvalidMachine" C_InvalidMachine
  x_InvalidDisk : ExcC K mg "InvalidDisk" C_InvalidDisk
  x_InvalidSketch : ExcC K mg "InvalidSketch" C_InvalidSketch
  x_NoSuchDeed : ExcC K mg "NoSuchDeed" C_NoSuchDeed
  x_InvalidForm : ExcC K mg "InvalidForm" C_InvalidForm
  x_InvalidFile : ExcC K mg "InvalidFile" C_InvalidFile
  x_NoRoom : ExcC K mg "NoRoom" C_NoRoom
  ex_WreckError_WreckError : PySem.W.exmOne K (.ref C_WreckError) (.ref C_WreckError) = some true
  ex_InvalidMachine_WreckError : PySem.W.exmOne K (.ref C_InvalidMachine) (.ref C_WreckError) = some true
  ex_InvalidDisk_WreckError : PySem.W.exmOne K (.ref C_InvalidDisk) (.ref C_WreckError) = some true
  ex_InvalidSketch_WreckError : PySem.W.exmOne K (.ref C_InvalidSketch) (.ref C_WreckError) = some true
  ex_NoSuchDeed_WreckError : PySem.W.exmOne K (.ref C_NoSuchDeed) (.ref C_WreckError) = some true
  ex_CannotDo_WreckError : PySem.W.exmOne K (.ref C_CannotDo) (.ref C_WreckError) = some true
  ex_InvalidForm_WreckError : PySem.W.exmOne K (.ref C_InvalidForm) (.ref C_WreckError) = some true
  ex_InvalidFile_WreckError : PySem.W.exmOne K (.ref C_InvalidFile) (.ref C_WreckError) = some true
  ex_NoRoom_WreckError : PySem.W.exmOne K (.ref C_NoRoom) (.ref C_WreckError) = some true
  is_WreckError_InvalidFile : PySem.W.kitOne K (.ref C_WreckError) (.ref C_InvalidFile) = some false
  is_InvalidMachine_InvalidFile : PySem.W.kitOne K (.ref C_InvalidMachine) (.ref C_InvalidFile) = some false
  is_InvalidDisk_InvalidFile : PySem.W.kitOne K (.ref C_InvalidDisk) (.ref C_InvalidFile) = some false
  is_InvalidSketch_InvalidFile : PySem.W.kitOne K (.ref C_InvalidSketch) (.ref C_InvalidFile) = some false
  is_NoSuchDeed_InvalidFile : PySem.W.kitOne K (.ref C_NoSuchDeed) (.ref C_InvalidFile) = some false
  is_CannotDo_InvalidFile : PySem.W.kitOne K (.ref C_CannotDo) (.ref C_InvalidFile) = some false
  is_InvalidForm_InvalidFile : PySem.W.kitOne K (.ref C_InvalidForm) (.ref C_InvalidFile) = some false
  is_InvalidFile_InvalidFile : PySem.W.kitOne K (.ref C_InvalidFile) (.ref C_InvalidFile) = some true
  is_NoRoom_InvalidFile : PySem.W.kitOne K (.ref C_NoRoom) (.ref C_InvalidFile) = some false
  is_WreckError_NoRoom : PySem.W.kitOne K (.ref C_WreckError) (.ref C_NoRoom) = some false
  is_InvalidMachine_NoRoom : PySem.W.kitOne K (.ref C_InvalidMachine) (.ref C_NoRoom) = some false
  is_InvalidDisk_NoRoom : PySem.W.kitOne K (.ref C_InvalidDisk) (.ref C_NoRoom) = some false
  is_InvalidSketch_NoRoom : PySem.W.kitOne K (.ref C_InvalidSketch) (.ref C_NoRoom) = some false
  is_NoSuchDeed_NoRoom : PySem.W.kitOne K (.ref C_NoSuchDeed) (.ref C_NoRoom) = some false
  is_CannotDo_NoRoom : PySem.W.kitOne K (.ref C_CannotDo) (.ref C_NoRoom) = some false
  is_InvalidForm_NoRoom : PySem.W.kitOne K (.ref C_InvalidForm) (.ref C_NoRoom) = some false
  is_InvalidFile_NoRoom : PySem.W.kitOne K (.ref C_InvalidFile) (.ref C_NoRoom) = some false
  is_NoRoom_NoRoom : PySem.W.kitOne K (.ref C_NoRoom) (.ref C_NoRoom) = some true
  is_WreckError_InvalidForm : PySem.W.kitOne K (.ref C_WreckError) (.ref C_InvalidForm) = some false
  is_InvalidMachine_InvalidForm : PySem.W.kitOne K (.ref C_InvalidMachine) (.ref C_InvalidForm) = some false
  is_InvalidDisk_InvalidForm : PySem.W.kitOne K (.ref C_InvalidDisk) (.ref C_InvalidForm) = some false
  is_InvalidSketch_InvalidForm : PySem.W.kitOne K (.ref C_InvalidSketch) (.ref C_InvalidForm) = some false
  is_NoSuchDeed_InvalidForm : PySem.W.kitOne K (.ref C_NoSuchDeed) (.ref C_InvalidForm) = some false
  is_CannotDo_InvalidForm : PySem.W.kitOne K (.ref C_CannotDo) (.ref C_InvalidForm) = some false
  is_InvalidForm_InvalidForm : PySem.W.kitOne K (.ref C_InvalidForm) (.ref C_InvalidForm) = some true
  is_InvalidFile_InvalidForm : PySem.W.kitOne K (.ref C_InvalidFile) (.ref C_InvalidForm) = some false
  is_NoRoom_InvalidForm : PySem.W.kitOne K (.ref C_NoRoom) (.ref C_InvalidForm) = some false
  xi_WreckError : L2.ExcC K C_WreckError
  xi_InvalidMachine : L2.ExcC K C_InvalidMachine
  xi_InvalidDisk : L2.ExcC K C_InvalidDisk
  xi_InvalidSketch : L2.ExcC K C_InvalidSketch
  xi_NoSuchDeed : L2.ExcC K C_NoSuchDeed
  xi_CannotDo : L2.ExcC K C_CannotDo
  xi_InvalidForm : L2.ExcC K C_InvalidForm
  xi_InvalidFile : L2.ExcC K C_InvalidFile
  xi_NoRoom : L2.ExcC K C_NoRoom
  cl_Machine : Cls K C_Machine
  mg_Machine : mg "Machine" = some (.ref C_Machine)
  cl_StripeForm : Cls K C_StripeForm
  mg_StripeForm : mg "StripeForm" = some (.ref C_StripeForm)
  at_cells : ∀ C, (C = C_Machine) → Cls K C ∧ NoAttr K C "cells"
  at_deeds : ∀ C, (C = C_Machine) → Cls K C ∧ NoAttr K C "deeds"
  at_first : ∀ C, (C = C_Machine) → Cls K C ∧ NoAttr K C "first"
  at_alphabet : ∀ C, (C = C_StripeForm) → Cls K C ∧ NoAttr K C "alphabet"
  n_all : mg "all" = none
  n_enumerate : mg "enumerate" = none
  n_int : mg "int" = none
  n_isinstance : mg "isinstance" = none
  n_len : mg "len" = none
  n_list : mg "list" = none
  n_range : mg "range" = none
  n_set : mg "set" = none
  n_str : mg "str" = none
  n_tuple : mg "tuple" = none
  n_zip : mg "zip" = none
  c_MOST_CELLS : ∃ t, mg "MOST_CELLS" = some (.int 24 t)
  c_MOST_VALUES : ∃ t, mg "MOST_VALUES" = some (.int 16 t)
  c_MOST_DEEDS : ∃ t, mg "MOST_DEEDS" = some (.int 400 t)
  c_LONGEST_NAME : ∃ t, mg "LONGEST_NAME" = some (.int 12 t)
  c_LOWER : ∃ t, mg "LOWER" = some (.str "abcdefghijklmnopqrstuvwxyz" t)
  c_DIGITS : ∃ t, mg "DIGITS" = some (.str "0123456789" t)
  c_PARITY : ∃ t, mg "PARITY" = some (.int 2 t)
  c_WORK : ∃ t, mg "WORK" = some (.int 3 t)
  c_NO_WORK : ∃ t, mg "NO_WORK" = some (.int 0 t)
  c_SOME_WORK : ∃ t, mg "SOME_WORK" = some (.int 6 t)
section
variable {P : Program} {w : World} {K : PySem.W.Frag} {mg : Str → Option Value} {base : Heap} {TB : List (Addr × Str)} {C_WreckError C_InvalidMachine C_InvalidDisk C_InvalidSketch C_NoSuchDeed C_CannotDo C_InvalidForm C_InvalidFile C_NoRoom C_Machine C_StripeForm : Addr}
def c_is_name : CT
  | [.fz (.str x)], R, _ => x.length ≤ 1000 ∧ R (.fz (.bl (nmB x))) []
  | _, _, _ => False
theorem sc_is_name : FnScope N_is_name ["text"] (defScope s_is_name) := ⟨rfl, rfl, rfl, by decide +kernel, rfl, by decide +kernel, by decide +kernel⟩
theorem ok_is_name (T : Txt K mg P w C_WreckError C_InvalidMachine C_InvalidDisk C_InvalidSketch C_NoSuchDeed C_CannotDo C_InvalidForm C_InvalidFile C_NoRoom C_Machine C_StripeForm) (F : TopFn K mg "is_name" s_is_name ["text"]) : FnAt P w K mg base TB 1 "is_name" ["text"] false c_is_name := by
  have nd := sc_is_name.nd
  refine fnAt F sc_is_name (fun ms R X h => by unfold c_is_name at h; split at h <;> first | rfl | exact h.elim) (fun h => by cases h) fun f cdv A outer s H E x0 Xd hr => ?_
  refine ⟨_, _, (dss_cons (ds_if (DW.pt (dw_or (dt_cmp (op_eqA rfl (hu64 hr)) od_eq (de_callB (call_lenA rfl) cd_len (by rfl) T.n_len bo_len (da_cons (dv 0) da_nil)) de_int (nomark _)) (dw_or (dt_cmp op_gt od_gt (de_callB (call_lenA rfl) cd_len (by rfl) T.n_len bo_len (da_cons (dv 0) da_nil)) (de_gint T.c_LONGEST_NAME) (nomark _)) (dw_or1 (dt_cmp (op_notInA rfl (hu99 hr)) od_notin (de_ix rfl (hu1 hr) (dv 0) de_int) (de_gstr T.c_LOWER) rfl)))))
      (dss_one (ds_ret de_bl))
      dss_nil)
      (dss_one (ds_ret (de_callB (call_allA rfl rfl) cd_all (by rfl) T.n_all bo_all (da_cons (de_lc (own := [("char", 1)]) rfl nd (di_any rfl (dv 0)) (blkOk_by (N := N_is_name) (sc := defScope s_is_name) (by decide +kernel)) (GOnly.name (by decide)) GMono.name (fun _ _ _ _ _ => (dg_name (i := 1) nd rfl (by first | exact Or.inl rfl | exact Or.inr rfl))) (fun _ _ _ _ _ => dts_nil) (fun _ _ _ _ _ => (de_or (de_cmp (op_inA rfl (hu99 hr)) od_in (dv 1) (de_gstr T.c_LOWER) rfl) (de_one (de_cmp (op_inA rfl (hu99 hr)) od_in (dv 1) (de_gstr T.c_DIGITS) rfl))))) da_nil))))), ?_⟩
  intro ms Rd h
  unfold c_is_name at h
  split at h <;> first | exact (show False from h).elim | skip
  rename_i x
  obtain ⟨hx, q⟩ := h
  have hl := str_len x
  unfold nmB at q
  simp -dsimp only [↓DL.qd, DL.qu, DL.qs, ↓DL.s_seq, mkD, D.key, dgetM, hide, hideS, Slot.fr?, Slot.m?, Slot.put, D.seqs, D.tyN, startD, List.replicate, Nat.reduceSub, Nat.reduceAdd, Nat.reduceLeDiff, wipeD, unw, freeAt, Slot.free, Nat.reduceEqDiff, id_eq, eq_self, qc, ↓DL.qtd, DL.qtu, ↓DL.qfd, DL.qfu,  o_inS]
  refine ⟨by unfold sizeLine; omega, br_dec (fun h => ?_) (fun h => ?_)⟩
  · simp -dsimp only [↓DL.qd, DL.qu, DL.qs, ↓DL.s_seq, mkD, D.key, dgetM, hide, hideS, Slot.fr?, Slot.m?, Slot.put, D.seqs, D.tyN, startD, List.replicate, Nat.reduceSub, Nat.reduceAdd, Nat.reduceLeDiff, wipeD, unw, freeAt, Slot.free, Nat.reduceEqDiff, id_eq, eq_self, qc, ↓DL.qtd, DL.qtu, ↓DL.qfd, DL.qfu]
    have e : x.cps.toList = [] := List.length_eq_zero_iff.mp (by omega)
    rw [e] at q
    exact q
  cases e : x.cps.toList with
  | nil => exact absurd (by rw [hl, e]; rfl) h
  | cons c r =>
    rw [e] at q
    simp only at q
    simp -dsimp only [↓DL.qd, DL.qu, DL.qs, ↓DL.s_seq, mkD, D.key, dgetM, hide, hideS, Slot.fr?, Slot.m?, Slot.put, D.seqs, D.tyN, startD, List.replicate, Nat.reduceSub, Nat.reduceAdd, Nat.reduceLeDiff, wipeD, unw, freeAt, Slot.free, Nat.reduceEqDiff, id_eq, eq_self, qc, ↓DL.qtd, DL.qtu, ↓DL.qfd, DL.qfu,  o_inS]
    refine ⟨by unfold sizeLine; omega, br_dec (fun h2 => ?_) (fun h2 => ?_)⟩
    · simp -dsimp only [↓DL.qd, DL.qu, DL.qs, ↓DL.s_seq, mkD, D.key, dgetM, hide, hideS, Slot.fr?, Slot.m?, Slot.put, D.seqs, D.tyN, startD, List.replicate, Nat.reduceSub, Nat.reduceAdd, Nat.reduceLeDiff, wipeD, unw, freeAt, Slot.free, Nat.reduceEqDiff, id_eq, eq_self, qc, ↓DL.qtd, DL.qtu, ↓DL.qfd, DL.qfu]
      rw [decide_eq_false (by omega)] at q
      simpa using q
    simp -dsimp only [↓DL.qd, DL.qu, DL.qs, ↓DL.s_seq, mkD, D.key, dgetM, hide, hideS, Slot.fr?, Slot.m?, Slot.put, D.seqs, D.tyN, startD, List.replicate, Nat.reduceSub, Nat.reduceAdd, Nat.reduceLeDiff, wipeD, unw, freeAt, Slot.free, Nat.reduceEqDiff, id_eq, eq_self, qc, ↓DL.qtd, DL.qtu, ↓DL.qfd, DL.qfu,  o_inS]
    refine ⟨by unfold sizeLine; omega, ?_⟩
    have ea : atI x.cps.toList 0 = some c := by rw [e]; exact DL.atI_nat (xs := c :: r) (k := 0) rfl
    refine wD_of ea ?_
    simp -dsimp only [↓DL.qd, DL.qu, DL.qs, ↓DL.s_seq, mkD, D.key, dgetM, hide, hideS, Slot.fr?, Slot.m?, Slot.put, D.seqs, D.tyN, startD, List.replicate, Nat.reduceSub, Nat.reduceAdd, Nat.reduceLeDiff, wipeD, unw, freeAt, Slot.free, Nat.reduceEqDiff, id_eq, eq_self, qc, ↓DL.qtd, DL.qtu, ↓DL.qfd, DL.qfu,  o_inS]
    rw [decide_eq_true (show x.length ≤ 12 by omega), Bool.true_and, ← e] at q
    refine br_of (fun h3 => ?_) (fun h3 => ?_)
    · simp -dsimp only [↓DL.qd, DL.qu, DL.qs, ↓DL.s_seq, mkD, D.key, dgetM, hide, hideS, Slot.fr?, Slot.m?, Slot.put, D.seqs, D.tyN, startD, List.replicate, Nat.reduceSub, Nat.reduceAdd, Nat.reduceLeDiff, wipeD, unw, freeAt, Slot.free, Nat.reduceEqDiff, id_eq, eq_self, qc, ↓DL.qtd, DL.qtu, ↓DL.qfd, DL.qfu]
      rw [show occB { cps := #[c] } lowS = false by simpa using h3] at q
      exact q
    rw [show occB { cps := #[c] } lowS = true by simpa using h3, Bool.true_and] at q
    simp -dsimp only [↓DL.qd, DL.qu, DL.qs, ↓DL.s_seq, mkD, D.key, dgetM, hide, hideS, Slot.fr?, Slot.m?, Slot.put, D.seqs, D.tyN, startD, List.replicate, Nat.reduceSub, Nat.reduceAdd, Nat.reduceLeDiff, wipeD, unw, freeAt, Slot.free, Nat.reduceEqDiff, id_eq, eq_self, qc, ↓DL.qtd, DL.qtu, ↓DL.qfd, DL.qfu]
    unfold chars
    refine lcR_mapE (fun s => s = [.v (.fz (.str x)), .un]) (fun k => .bl (signB k)) (by rw [← hl]; unfold sizeLine; omega) rfl ?_ ?_
    · rintro k hk s rfl R hR
      simp -dsimp only [↓DL.qd, DL.qu, DL.qs, ↓DL.s_seq, mkD, D.key, dgetM, hide, hideS, Slot.fr?, Slot.m?, Slot.put, D.seqs, D.tyN, startD, List.replicate, Nat.reduceSub, Nat.reduceAdd, Nat.reduceLeDiff, wipeD, unw, freeAt, Slot.free, Nat.reduceEqDiff, id_eq, eq_self, qc, ↓DL.qtd, DL.qtu, ↓DL.qfd, DL.qfu,  o_inS]
      refine br_of (fun h4 => ?_) (fun h4 => ?_)
      · simp -dsimp only [↓DL.qd, DL.qu, DL.qs, ↓DL.s_seq, mkD, D.key, dgetM, hide, hideS, Slot.fr?, Slot.m?, Slot.put, D.seqs, D.tyN, startD, List.replicate, Nat.reduceSub, Nat.reduceAdd, Nat.reduceLeDiff, wipeD, unw, freeAt, Slot.free, Nat.reduceEqDiff, id_eq, eq_self, qc, ↓DL.qtd, DL.qtu, ↓DL.qfd, DL.qfu]
        refine hR _ _ ?_ rfl
        unfold signB
        rw [show occB { cps := #[k] } lowS = true from h4]
        rfl
      · simp -dsimp only [↓DL.qd, DL.qu, DL.qs, ↓DL.s_seq, mkD, D.key, dgetM, hide, hideS, Slot.fr?, Slot.m?, Slot.put, D.seqs, D.tyN, startD, List.replicate, Nat.reduceSub, Nat.reduceAdd, Nat.reduceLeDiff, wipeD, unw, freeAt, Slot.free, Nat.reduceEqDiff, id_eq, eq_self, qc, ↓DL.qtd, DL.qtu, ↓DL.qfd, DL.qfu,  o_inS]
        refine hR _ _ ?_ rfl
        unfold signB
        rw [show occB { cps := #[k] } lowS = false from h4]
        rfl
    · rintro s' rfl
      simp -dsimp only [↓DL.qd, DL.qu, DL.qs, ↓DL.s_seq, mkD, D.key, dgetM, hide, hideS, Slot.fr?, Slot.m?, Slot.put, D.seqs, D.tyN, startD, List.replicate, Nat.reduceSub, Nat.reduceAdd, Nat.reduceLeDiff, wipeD, unw, freeAt, Slot.free, Nat.reduceEqDiff, id_eq, eq_self, qc, ↓DL.qtd, DL.qtu, ↓DL.qfd, DL.qfu]
      refine wD_of (boolL_mapf _ _) ?_
      simp -dsimp only [↓DL.qd, DL.qu, DL.qs, ↓DL.s_seq, mkD, D.key, dgetM, hide, hideS, Slot.fr?, Slot.m?, Slot.put, D.seqs, D.tyN, startD, List.replicate, Nat.reduceSub, Nat.reduceAdd, Nat.reduceLeDiff, wipeD, unw, freeAt, Slot.free, Nat.reduceEqDiff, id_eq, eq_self, qc, ↓DL.qtd, DL.qtu, ↓DL.qfd, DL.qfu]
      rw [List.all_map]
      exact q
def c_is_mask : CT
  | [.fz (.int m), .fz (.int z)], R, _ => 0 ≤ z ∧ z ≤ 16 ∧ R (.fz (.bl (decide (0 < m) && decide (m < 2 ^ z.toNat)))) []
  | _, _, _ => False
theorem sc_is_mask : FnScope N_is_mask ["mask", "size"] (defScope s_is_mask) := ⟨rfl, rfl, rfl, by decide +kernel, rfl, by decide +kernel, by decide +kernel⟩
theorem ok_is_mask (T : Txt K mg P w C_WreckError C_InvalidMachine C_InvalidDisk C_InvalidSketch C_NoSuchDeed C_CannotDo C_InvalidForm C_InvalidFile C_NoRoom C_Machine C_StripeForm) (F : TopFn K mg "is_mask" s_is_mask ["mask", "size"]) : FnAt P w K mg base TB 1 "is_mask" ["mask", "size"] false c_is_mask := by
  have nd := sc_is_mask.nd
  refine fnAt F sc_is_mask (fun ms R X h => by unfold c_is_mask at h; split at h <;> first | rfl | exact h.elim) (fun h => by cases h) fun f cdv A outer s H E x0 Xd hr => ?_
  refine ⟨_, _, (dss_one (ds_ret (de_chain op_lt od_lt op_lt od_lt de_int (dv 0) (de_op op_shl od_shl de_int (dv 1))))), ?_⟩
  intro ms Rd h
  unfold c_is_mask at h
  split at h <;> first | exact (show False from h).elim | skip
  rename_i m z
  obtain ⟨h0, h1, q⟩ := h
  simp -dsimp only [↓DL.qd, DL.qu, DL.qs, ↓DL.s_seq, mkD, D.key, dgetM, hide, hideS, Slot.fr?, Slot.m?, Slot.put, D.seqs, D.tyN, startD, List.replicate, Nat.reduceSub, Nat.reduceAdd, Nat.reduceLeDiff, wipeD, unw, freeAt, Slot.free, Nat.reduceEqDiff, id_eq, eq_self, qc, ↓DL.qtd, DL.qtu, ↓DL.qfd, DL.qfu]
  refine br_dec (fun h => ?_) (fun h => ?_)
  · simp -dsimp only [↓DL.qd, DL.qu, DL.qs, ↓DL.s_seq, mkD, D.key, dgetM, hide, hideS, Slot.fr?, Slot.m?, Slot.put, D.seqs, D.tyN, startD, List.replicate, Nat.reduceSub, Nat.reduceAdd, Nat.reduceLeDiff, wipeD, unw, freeAt, Slot.free, Nat.reduceEqDiff, id_eq, eq_self, qc, ↓DL.qtd, DL.qtu, ↓DL.qfd, DL.qfu]
    simp [h] at q
    refine ⟨⟨by omega, by omega, by decide⟩, ?_⟩
    simpa using q
  · simp -dsimp only [↓DL.qd, DL.qu, DL.qs, ↓DL.s_seq, mkD, D.key, dgetM, hide, hideS, Slot.fr?, Slot.m?, Slot.put, D.seqs, D.tyN, startD, List.replicate, Nat.reduceSub, Nat.reduceAdd, Nat.reduceLeDiff, wipeD, unw, freeAt, Slot.free, Nat.reduceEqDiff, id_eq, eq_self, qc, ↓DL.qtd, DL.qtu, ↓DL.qfd, DL.qfu]
    simpa [h] using q
def c__check_order : CT
  | [.fz (.tup ps), .fz (.int n)], R, _ => ∃ cs : List (Nat × D), ps = cs.map (fun p => .tup [.int (p.1 : Int), p.2]) ∧ (cs.map (·.1)).Pairwise (· < ·) ∧ (∀ p ∈ cs, (p.1 : Int) < n) ∧ R (.fz .non) []
  | _, _, _ => False
theorem sc__check_order : FnScope N__check_order ["pairs", "count"] (defScope s__check_order) := ⟨rfl, rfl, rfl, by decide +kernel, rfl, by decide +kernel, by decide +kernel⟩
theorem ok__check_order (T : Txt K mg P w C_WreckError C_InvalidMachine C_InvalidDisk C_InvalidSketch C_NoSuchDeed C_CannotDo C_InvalidForm C_InvalidFile C_NoRoom C_Machine C_StripeForm) (F : TopFn K mg "_check_order" s__check_order ["pairs", "count"]) : FnAt P w K mg base TB 1 "_check_order" ["pairs", "count"] false c__check_order := by
  have nd := sc__check_order.nd
  refine fnAt F sc__check_order (fun ms R X h => by unfold c__check_order at h; split at h <;> first | rfl | exact h.elim) (fun h => by cases h) fun f cdv A outer s H E x0 Xd hr => ?_
  refine ⟨_, _, (dss_cons (ds_set (i := 2) nd rfl (by first | exact Or.inl rfl | exact Or.inr rfl) (de_neg de_int))
      (dss_one (ds_for passD rfl (di_any rfl (dv 0)) (dg_tup (n := 2) rfl rfl (dgs_cons (dg_name (i := 3) nd rfl (by first | exact Or.inl rfl | exact Or.inr rfl)) (dgs_cons (dg_name (i := 4) nd rfl (by first | exact Or.inl rfl | exact Or.inr rfl)) dgs_nil)))
      (dss_cons (ds_if (DW.pt (dw_or (dt_cmp op_le od_le (dv 3) (dv 2) (nomark _)) (dw_or1 (dt_cmp op_ge od_ge (dv 3) (dv 1) (nomark _)))))
      (dss_one (ds_raiseC T.x_InvalidMachine rfl takesD rfl))
      dss_nil)
      (dss_one (ds_set (i := 2) nd rfl (by first | exact Or.inl rfl | exact Or.inr rfl) (dv 3))))))), ?_⟩
  intro ms Rd h
  unfold c__check_order at h
  split at h <;> first | exact (show False from h).elim | skip
  rename_i ps n
  obtain ⟨cs, rfl, ha, hb, q⟩ := h
  simp -dsimp only [↓DL.qd, DL.qu, DL.qs, ↓DL.s_seq, mkD, D.key, dgetM, hide, hideS, Slot.fr?, Slot.m?, Slot.put, D.seqs, D.tyN, startD, List.replicate, Nat.reduceSub, Nat.reduceAdd, Nat.reduceLeDiff, wipeD, unw, freeAt, Slot.free, Nat.reduceEqDiff, id_eq, eq_self, qc, ↓DL.qtd, DL.qtu, ↓DL.qfd, DL.qfu]
  refine for_of (fun i s => ∃ (b : Int) (x y : DL.Slot), s = [.v (.fz (.tup (cs.map (fun p => .tup [.int (p.1 : Int), p.2])))), .v (.fz (.int n)), .v (.fz (.int b)), x, y] ∧ x.pinned = false ∧ y.pinned = false ∧ ∀ p ∈ cs.drop i, b < (p.1 : Int)) ⟨-1, _, _, rfl, rfl, rfl, fun p _ => by omega⟩ ?_ ?_
  · rintro i d s hd ⟨b, x, y, rfl, hx, hy, hbb⟩ N B R hN - -
    rw [List.getElem?_map] at hd
    obtain ⟨p, hp, rfl⟩ := Option.map_eq_some_iff.mp hd
    have hlt := (List.getElem?_eq_some_iff.mp hp).1
    have ep := (List.getElem?_eq_some_iff.mp hp).2
    have hd' : cs.drop i = p :: cs.drop (i + 1) := by rw [List.drop_eq_getElem_cons hlt, ep]
    have h1 := hbb p (by rw [hd']; simp)
    have h2 := hb p (List.mem_of_getElem? hp)
    simp -dsimp only [↓DL.qd, DL.qu, DL.qs, ↓DL.s_seq, mkD, D.key, dgetM, hide, hideS, Slot.fr?, Slot.m?, Slot.put, D.seqs, D.tyN, startD, List.replicate, Nat.reduceSub, Nat.reduceAdd, Nat.reduceLeDiff, wipeD, unw, freeAt, Slot.free, Nat.reduceEqDiff, id_eq, eq_self, qc, ↓DL.qtd, DL.qtu, ↓DL.qfd, DL.qfu,  gset_free hx, gset_free hy]
    repeat' (first | refine br_dec (fun h => ?_) (fun h => ?_) | refine br_ndec (fun h => ?_) (fun h => ?_) | simp -dsimp only [↓DL.qd, DL.qu, DL.qs, ↓DL.s_seq, mkD, D.key, dgetM, hide, hideS, Slot.fr?, Slot.m?, Slot.put, D.seqs, D.tyN, startD, List.replicate, Nat.reduceSub, Nat.reduceAdd, Nat.reduceLeDiff, wipeD, unw, freeAt, Slot.free, Nat.reduceEqDiff, id_eq, eq_self, qc, ↓DL.qtd, DL.qtu, ↓DL.qfd, DL.qfu])
    all_goals first | omega | skip
    refine hN _ ⟨_, _, _, rfl, rfl, rfl, fun p' hp' => ?_⟩
    have := List.Pairwise.drop (i := i) (List.pairwise_map.mp ha)
    rw [hd', List.pairwise_cons] at this
    have := this.1 p' hp'
    omega
  · rintro s ⟨b, x, y, rfl, hx, hy, -⟩
    simp -dsimp only [↓DL.qd, DL.qu, DL.qs, ↓DL.s_seq, mkD, D.key, dgetM, hide, hideS, Slot.fr?, Slot.m?, Slot.put, D.seqs, D.tyN, startD, List.replicate, Nat.reduceSub, Nat.reduceAdd, Nat.reduceLeDiff, wipeD, unw, freeAt, Slot.free, Nat.reduceEqDiff, id_eq, eq_self, qc, ↓DL.qtd, DL.qtu, ↓DL.qfd, DL.qfu]
    exact q
def c__check_names : CT
  | [.ml ns], R, _ => ∃ xs : List Str, ns = xs.map .str ∧ (∀ x ∈ xs, nmB x = true) ∧ xs.Nodup ∧ xs.length ≤ 1000 ∧ R (.fz .non) []
  | _, _, _ => False
theorem nm_len {x : Str} (h : nmB x = true) : x.length ≤ 12 := by
  unfold nmB at h
  split at h
  · cases h
  · simp at h; exact h.1.1
theorem keys_str : ∀ xs : List Str, D.keys (xs.map D.str) = some (xs.map Sum.inr)
  | [] => rfl
  | x :: xs => by
    simp [D.keys, D.key, keys_str xs]
theorem met_strs {xs : List Str} (h : xs.Nodup) : (met (xs.map Sum.inr)).length = xs.length := by
  rw [met_nodup]
  · simp
  · exact List.pairwise_map.mpr (h.imp fun h e => h (Sum.inr.inj e))
theorem sc__check_names : FnScope N__check_names ["names"] (defScope s__check_names) := ⟨rfl, rfl, rfl, by decide +kernel, rfl, by decide +kernel, by decide +kernel⟩
theorem ok__check_names (T : Txt K mg P w C_WreckError C_InvalidMachine C_InvalidDisk C_InvalidSketch C_NoSuchDeed C_CannotDo C_InvalidForm C_InvalidFile C_NoRoom C_Machine C_StripeForm) (G_is_name : FnAt P w K mg base TB 1 "is_name" ["text"] false c_is_name) (F : TopFn K mg "_check_names" s__check_names ["names"]) : FnAt P w K mg base TB 2 "_check_names" ["names"] false c__check_names := by
  have nd := sc__check_names.nd
  refine fnAt F sc__check_names (fun ms R X h => by unfold c__check_names at h; split at h <;> first | rfl | exact h.elim) (fun h => by cases h) fun f cdv A outer s H E x0 Xd hr => ?_
  refine ⟨_, _, (dss_one (ds_if (DW.pt (dw_or (dt_not (dt_truth (de_callB (call_allA rfl rfl) cd_all (by rfl) T.n_all bo_all (da_cons (de_lc (own := [("name", 1)]) rfl nd (di_any rfl (dv 0)) (blkOk_by (N := N__check_names) (sc := defScope s__check_names) (by decide +kernel)) (GOnly.name (by decide)) GMono.name (fun _ _ _ _ _ => (dg_name (i := 1) nd rfl (by first | exact Or.inl rfl | exact Or.inr rfl))) (fun _ _ _ _ _ => dts_nil) (fun _ _ _ _ _ => (de_callN G_is_name hr rfl rfl takes_blk (da_cons (dv 1) da_nil)))) da_nil)))) (dw_or1 (dt_cmp (op_neA rfl (hu64 hr)) od_ne (de_lenSet rfl rfl (by rfl) T.n_len (by rfl) T.n_set (dv 0)) (de_callB (call_lenA rfl) cd_len (by rfl) T.n_len bo_len (da_cons (dv 0) da_nil)) (nomark _)))))
      (dss_one (ds_raiseC T.x_InvalidMachine rfl takesD rfl))
      dss_nil)), ?_⟩
  intro ms Rd h
  unfold c__check_names at h
  split at h <;> first | exact (show False from h).elim | skip
  rename_i ns
  obtain ⟨xs, rfl, h1, h2, h3, q⟩ := h
  simp -dsimp only [↓DL.qd, DL.qu, DL.qs, ↓DL.s_seq, mkD, D.key, dgetM, hide, hideS, Slot.fr?, Slot.m?, Slot.put, D.seqs, D.tyN, startD, List.replicate, Nat.reduceSub, Nat.reduceAdd, Nat.reduceLeDiff, wipeD, unw, freeAt, Slot.free, Nat.reduceEqDiff, id_eq, eq_self, c_is_name, qc, ↓DL.qtd, DL.qtu, ↓DL.qfd, DL.qfu]
  refine lcR_mapE (fun s => ∃ a, s = [a, .un] ∧ a = .v (.fz (.lst (xs.map .str)))) (fun _ => .bl true) (by unfold sizeLine; omega) ⟨_, rfl, rfl⟩ ?_ ?_
  · rintro x hx s ⟨a, rfl, rfl⟩ R hR
    simp -dsimp only [↓DL.qd, DL.qu, DL.qs, ↓DL.s_seq, mkD, D.key, dgetM, hide, hideS, Slot.fr?, Slot.m?, Slot.put, D.seqs, D.tyN, startD, List.replicate, Nat.reduceSub, Nat.reduceAdd, Nat.reduceLeDiff, wipeD, unw, freeAt, Slot.free, Nat.reduceEqDiff, id_eq, eq_self, c_is_name, qc, ↓DL.qtd, DL.qtu, ↓DL.qfd, DL.qfu]
    refine ⟨by have := nm_len (h1 x hx); omega, ?_⟩
    try simp -dsimp only [↓DL.qd, DL.qu, DL.qs, ↓DL.s_seq, mkD, D.key, dgetM, hide, hideS, Slot.fr?, Slot.m?, Slot.put, D.seqs, D.tyN, startD, List.replicate, Nat.reduceSub, Nat.reduceAdd, Nat.reduceLeDiff, wipeD, unw, freeAt, Slot.free, Nat.reduceEqDiff, id_eq, eq_self, c_is_name, qc, ↓DL.qtd, DL.qtu, ↓DL.qfd, DL.qfu]
    exact hR _ _ (by rw [h1 x hx]; rfl) ⟨_, rfl, rfl⟩
  · rintro s' ⟨a, rfl, rfl⟩
    simp -dsimp only [↓DL.qd, DL.qu, DL.qs, ↓DL.s_seq, mkD, D.key, dgetM, hide, hideS, Slot.fr?, Slot.m?, Slot.put, D.seqs, D.tyN, startD, List.replicate, Nat.reduceSub, Nat.reduceAdd, Nat.reduceLeDiff, wipeD, unw, freeAt, Slot.free, Nat.reduceEqDiff, id_eq, eq_self, c_is_name, qc, ↓DL.qtd, DL.qtu, ↓DL.qfd, DL.qfu,  keys_str, met_strs h2]
    refine wD_of (boolL_mapf _ _) ?_
    rw [show (List.map (fun x => true) xs).all id = true by simp]
    simp -dsimp only [↓DL.qd, DL.qu, DL.qs, ↓DL.s_seq, mkD, D.key, dgetM, hide, hideS, Slot.fr?, Slot.m?, Slot.put, D.seqs, D.tyN, startD, List.replicate, Nat.reduceSub, Nat.reduceAdd, Nat.reduceLeDiff, wipeD, unw, freeAt, Slot.free, Nat.reduceEqDiff, id_eq, eq_self, c_is_name, qc, ↓DL.qtd, DL.qtu, ↓DL.qfd, DL.qfu,  keys_str, met_strs h2]
    refine ⟨by simp; omega, br_ndec (fun h => absurd (by simp) h) (fun _ => ?_)⟩
    simp -dsimp only [↓DL.qd, DL.qu, DL.qs, ↓DL.s_seq, mkD, D.key, dgetM, hide, hideS, Slot.fr?, Slot.m?, Slot.put, D.seqs, D.tyN, startD, List.replicate, Nat.reduceSub, Nat.reduceAdd, Nat.reduceLeDiff, wipeD, unw, freeAt, Slot.free, Nat.reduceEqDiff, id_eq, eq_self, c_is_name, qc, ↓DL.qtd, DL.qtu, ↓DL.qfd, DL.qfu]
    exact q
def c_Machine__check_deed : CT
  | [m, .fz (.lst zs), .fz (.tup g), .fz (.tup c)], R, _ => ∃ (sz : List Int) (d : Deed), zs = sz.map .int ∧ g = d.g.map gdD ∧ c = d.c.map chD ∧ wfS sz ∧ wfD sz d ∧ R (.fz .non) [m]
  | _, _, _ => False
theorem sc_Machine__check_deed : FnScope N_Machine__check_deed ["self", "sizes", "guard", "changes"] (defScope s_Machine__check_deed) := ⟨rfl, rfl, rfl, by decide +kernel, rfl, by decide +kernel, by decide +kernel⟩
theorem ok_Machine__check_deed {f_Machine__check_deed : Addr} (T : Txt K mg P w C_WreckError C_InvalidMachine C_InvalidDisk C_InvalidSketch C_NoSuchDeed C_CannotDo C_InvalidForm C_InvalidFile C_NoRoom C_Machine C_StripeForm) (G_is_mask : FnAt P w K mg base TB 1 "is_mask" ["mask", "size"] false c_is_mask) (hm : Meth K C_Machine "_check_deed" f_Machine__check_deed) (F : TopMt K "_check_deed" "Machine._check_deed" s_Machine__check_deed ["self", "sizes", "guard", "changes"] f_Machine__check_deed) : MtAt P w K mg base TB 2 C_Machine "_check_deed" ["self", "sizes", "guard", "changes"] true c_Machine__check_deed := by
  have nd := sc_Machine__check_deed.nd
  refine mtAtM T.cl_Machine hm F sc_Machine__check_deed (fun ms R X h => by unfold c_Machine__check_deed at h; split at h <;> first | rfl | exact h.elim) (fun _ => by decide) fun f cdv A outer s H E x0 Xd hr => ?_
  refine ⟨_, _, (dss_cons (ds_for passD rfl (di_any rfl (dv 2)) (dg_tup (n := 2) rfl rfl (dgs_cons (dg_name (i := 4) nd rfl (by first | exact Or.inl rfl | exact Or.inr rfl)) (dgs_cons (dg_name (i := 5) nd rfl (by first | exact Or.inl rfl | exact Or.inr rfl)) dgs_nil)))
      (dss_one (ds_if (dt_not (dt_truth (de_callN G_is_mask hr rfl rfl takesD (da_cons (dv 5) (da_cons (de_ix rfl (hu1 hr) (dv 1) (dv 4)) da_nil)))))
      (dss_one (ds_raiseC T.x_InvalidMachine rfl takesD rfl))
      dss_nil)))
      (dss_one (ds_for passD rfl (di_any rfl (dv 3)) (dg_tup (n := 2) rfl rfl (dgs_cons (dg_name (i := 4) nd rfl (by first | exact Or.inl rfl | exact Or.inr rfl)) (dgs_cons (dg_tup (n := 2) rfl rfl (dgs_cons (dg_name (i := 6) nd rfl (by first | exact Or.inl rfl | exact Or.inr rfl)) (dgs_cons (dg_name (i := 7) nd rfl (by first | exact Or.inl rfl | exact Or.inr rfl)) dgs_nil))) dgs_nil)))
      (dss_cons (ds_if (DW.pt (dw_and (dt_cmp (op_eqA rfl (hu64 hr)) od_eq (dv 6) de_str (nomark _)) (dw_and1 (dt_chain op_le od_le op_lt od_lt de_int (dv 7) (de_ix rfl (hu1 hr) (dv 1) (dv 4))))))
      (dss_one ds_continue)
      dss_nil)
      (dss_one (ds_if (DW.pt (dw_or (dt_cmp (op_neA rfl (hu64 hr)) od_ne (dv 6) de_str (nomark _)) (dw_or (dt_cmp op_lt od_lt (dv 7) de_int (nomark _)) (dw_or (dt_cmp op_ge od_ge (dv 7) (de_callB (call_lenA rfl) cd_len (by rfl) T.n_len bo_len (da_cons (dv 1) da_nil)) (nomark _)) (dw_or1 (dt_cmp op_gt od_gt (de_ix rfl (hu1 hr) (dv 1) (dv 7)) (de_ix rfl (hu1 hr) (dv 1) (dv 4)) (nomark _)))))))
      (dss_one (ds_raiseC T.x_InvalidMachine rfl takesD rfl))
      dss_nil)))))), ?_⟩
  intro ms Rd h
  unfold c_Machine__check_deed at h
  split at h <;> first | exact (show False from h).elim | skip
  rename_i m zs g c
  obtain ⟨sz, d, rfl, rfl, rfl, hz, hd, q⟩ := h
  have hs24 := hz.1
  have at_sz : ∀ i : Nat, i < sz.length → atI (sz.map D.int) (i : Int) = some (.int (gi sz i)) := fun i hi => DL.atI_nat (by rw [List.getElem?_map, gi_get hi]; rfl)
  simp -dsimp only [↓DL.qd, DL.qu, DL.qs, ↓DL.s_seq, mkD, D.key, dgetM, hide, hideS, Slot.fr?, Slot.m?, Slot.put, D.seqs, D.tyN, startD, List.replicate, Nat.reduceSub, Nat.reduceAdd, Nat.reduceLeDiff, wipeD, unw, freeAt, Slot.free, Nat.reduceEqDiff, id_eq, eq_self, c_is_mask, qc, ↓DL.qtd, DL.qtu, ↓DL.qfd, DL.qfu]
  refine for_ofE (fun i s => ∃ a b : DL.Slot, s = [.p x0 m, .v (.fz (.lst (sz.map .int))), .v (.fz (.tup (d.g.map gdD))), .v (.fz (.tup (d.c.map chD))), a, b, .un, .un] ∧ a.pinned = false ∧ b.pinned = false) ⟨_, _, rfl, rfl, rfl⟩ ?_ ?_
  · rintro i p s hp ⟨a, b, rfl, ha, hb⟩ N B R hN - -
    obtain ⟨h1, h2⟩ := hd.1.2 p (List.mem_of_getElem? hp)
    have h3 := hz.2 p.1 h1
    obtain ⟨pc, pm⟩ := p
    simp -dsimp only [↓DL.qd, DL.qu, DL.qs, ↓DL.s_seq, mkD, D.key, dgetM, hide, hideS, Slot.fr?, Slot.m?, Slot.put, D.seqs, D.tyN, startD, List.replicate, Nat.reduceSub, Nat.reduceAdd, Nat.reduceLeDiff, wipeD, unw, freeAt, Slot.free, Nat.reduceEqDiff, id_eq, eq_self, c_is_mask, qc, ↓DL.qtd, DL.qtu, ↓DL.qfd, DL.qfu,  gset_free ha, gset_free hb, at_sz pc h1, gdD_mk]
    have h3 : 1 ≤ gi sz pc ∧ gi sz pc ≤ 16 := h3
    refine ⟨by omega, h3.2, ?_⟩
    rw [decide_eq_true h2.1, decide_eq_true h2.2]
    try simp -dsimp only [↓DL.qd, DL.qu, DL.qs, ↓DL.s_seq, mkD, D.key, dgetM, hide, hideS, Slot.fr?, Slot.m?, Slot.put, D.seqs, D.tyN, startD, List.replicate, Nat.reduceSub, Nat.reduceAdd, Nat.reduceLeDiff, wipeD, unw, freeAt, Slot.free, Nat.reduceEqDiff, id_eq, eq_self, c_is_mask, qc, ↓DL.qtd, DL.qtu, ↓DL.qfd, DL.qfu]
    exact hN _ ⟨_, _, rfl, rfl, rfl⟩
  rintro s ⟨a, b, rfl, ha, hb⟩
  simp -dsimp only [↓DL.qd, DL.qu, DL.qs, ↓DL.s_seq, mkD, D.key, dgetM, hide, hideS, Slot.fr?, Slot.m?, Slot.put, D.seqs, D.tyN, startD, List.replicate, Nat.reduceSub, Nat.reduceAdd, Nat.reduceLeDiff, wipeD, unw, freeAt, Slot.free, Nat.reduceEqDiff, id_eq, eq_self, c_is_mask, qc, ↓DL.qtd, DL.qtu, ↓DL.qfd, DL.qfu]
  refine for_ofE (fun i s => ∃ a b e f : DL.Slot, s = [.p x0 m, .v (.fz (.lst (sz.map .int))), .v (.fz (.tup (d.g.map gdD))), .v (.fz (.tup (d.c.map chD))), a, b, e, f] ∧ a.pinned = false ∧ b.pinned = false ∧ e.pinned = false ∧ f.pinned = false) ⟨_, _, _, _, rfl, ha, hb, rfl, rfl⟩ ?_ ?_
  · rintro i p s hp ⟨a, b, e, f, rfl, ha, hb, he, hf⟩ N B R hN - -
    obtain ⟨h1, h2⟩ := hd.2.2 p (List.mem_of_getElem? hp)
    obtain ⟨k, sr⟩ := p
    cases sr with
    | set v =>
      have h2 : 0 ≤ v ∧ v < gi sz k := h2
      repeat' (first | refine br_dec (fun h => ?_) (fun h => ?_) | refine br_ndec (fun h => ?_) (fun h => ?_) | simp -dsimp only [↓DL.qd, DL.qu, DL.qs, ↓DL.s_seq, mkD, D.key, dgetM, hide, hideS, Slot.fr?, Slot.m?, Slot.put, D.seqs, D.tyN, startD, List.replicate, Nat.reduceSub, Nat.reduceAdd, Nat.reduceLeDiff, wipeD, unw, freeAt, Slot.free, Nat.reduceEqDiff, id_eq, eq_self, c_is_mask, qc, ↓DL.qtd, DL.qtu, ↓DL.qfd, DL.qfu,  gset_free ha, gset_free he, gset_free hf, at_sz k h1, chD_set, o_eqS, o_neS, ne_sc, ne_cs])
      all_goals first | omega | exact hN _ ⟨_, _, _, _, rfl, rfl, hb, rfl, rfl⟩
    | copy n =>
      have h2 : n < sz.length ∧ gi sz n ≤ gi sz k := h2
      repeat' (first | refine br_dec (fun h => ?_) (fun h => ?_) | refine br_ndec (fun h => ?_) (fun h => ?_) | simp -dsimp only [↓DL.qd, DL.qu, DL.qs, ↓DL.s_seq, mkD, D.key, dgetM, hide, hideS, Slot.fr?, Slot.m?, Slot.put, D.seqs, D.tyN, startD, List.replicate, Nat.reduceSub, Nat.reduceAdd, Nat.reduceLeDiff, wipeD, unw, freeAt, Slot.free, Nat.reduceEqDiff, id_eq, eq_self, c_is_mask, qc, ↓DL.qtd, DL.qtu, ↓DL.qfd, DL.qfu,  gset_free ha, gset_free he, gset_free hf, at_sz k h1, at_sz n h2.1, chD_copy, o_eqS, o_neS, ne_sc, ne_cs, List.length_map])
      all_goals first | omega | exact hN _ ⟨_, _, _, _, rfl, rfl, hb, rfl, rfl⟩
  rintro s ⟨a, b, e, f, rfl, ha, hb, he, hf⟩
  simp -dsimp only [↓DL.qd, DL.qu, DL.qs, ↓DL.s_seq, mkD, D.key, dgetM, hide, hideS, Slot.fr?, Slot.m?, Slot.put, D.seqs, D.tyN, startD, List.replicate, Nat.reduceSub, Nat.reduceAdd, Nat.reduceLeDiff, wipeD, unw, freeAt, Slot.free, Nat.reduceEqDiff, id_eq, eq_self, c_is_mask, qc, ↓DL.qtd, DL.qtu, ↓DL.qfd, DL.qfu,  pins_free ha, pins_free hb, pins_free he, pins_free hf]
  exact q
def c_Machine_init (C_Machine : Addr) : CT
  | [.mo C .nil, cm, dm, fm], R, _ => ∃ M : Mach, C = C_Machine ∧ (cm.frz = .lst (M.cells.map cellD) ∨ cm.frz = .tup (M.cells.map cellD)) ∧ dm.frz = .lst (M.ds.map deedD) ∧ fm.frz = tupI M.fi ∧ M.ok ∧ R (.fz .non) [machM C_Machine M]
  | _, _, _ => False
theorem sc_Machine_init : FnScope N_Machine_init ["self", "cells", "deeds", "first"] (defScope s_Machine_init) := ⟨rfl, rfl, rfl, by decide +kernel, rfl, by decide +kernel, by decide +kernel⟩
theorem ok_Machine_init {f_Machine_init : Addr} (T : Txt K mg P w C_WreckError C_InvalidMachine C_InvalidDisk C_InvalidSketch C_NoSuchDeed C_CannotDo C_InvalidForm C_InvalidFile C_NoRoom C_Machine C_StripeForm) (G_Machine__check_deed : MtAt P w K mg base TB 2 C_Machine "_check_deed" ["self", "sizes", "guard", "changes"] true c_Machine__check_deed) (G__check_names : FnAt P w K mg base TB 2 "_check_names" ["names"] false c__check_names) (G__check_order : FnAt P w K mg base TB 1 "_check_order" ["pairs", "count"] false c__check_order) (G_is_mask : FnAt P w K mg base TB 1 "is_mask" ["mask", "size"] false c_is_mask) (hm : Mk K C_Machine f_Machine_init) (F : TopMt K "__init__" "Machine.__init__" s_Machine_init ["self", "cells", "deeds", "first"] f_Machine_init) : InAt P w K mg base TB 3 "Machine" C_Machine ["self", "cells", "deeds", "first"] (c_Machine_init C_Machine) := by
  have nd := sc_Machine_init.nd
  refine mtAtI T.mg_Machine hm F sc_Machine_init (fun ms R X h => by unfold c_Machine_init at h; split at h <;> first | rfl | exact h.elim) (fun _ => by decide) fun f cdv A outer s H E x0 Xd hr => ?_
  refine ⟨_, _, (dss_cons (ds_if (DW.pt (dw_or (dt_cmp op_lt od_lt (de_callB (call_lenA rfl) cd_len (by rfl) T.n_len bo_len (da_cons (dv 1) da_nil)) de_int (nomark _)) (dw_or (dt_cmp op_gt od_gt (de_callB (call_lenA rfl) cd_len (by rfl) T.n_len bo_len (da_cons (dv 1) da_nil)) (de_gint T.c_MOST_CELLS) (nomark _)) (dw_or1 (dt_cmp op_gt od_gt (de_callB (call_lenA rfl) cd_len (by rfl) T.n_len bo_len (da_cons (dv 2) da_nil)) (de_gint T.c_MOST_DEEDS) (nomark _))))))
      (dss_one (ds_raiseC T.x_InvalidMachine rfl takesD rfl))
      dss_nil)
      (dss_cons (ds_expr (de_callN G__check_names hr rfl rfl takesD (da_cons (de_lc (own := [("name", 9), ("_", 5)]) rfl nd (di_any rfl (dv 1)) (blkOk_by (N := N_Machine_init) (sc := defScope s_Machine_init) (by decide +kernel)) (GOnly.tup (GOnlys.cons GMono.name (GMonos.cons GMono.name GMonos.nil) (GOnly.name (by decide)) (GOnlys.cons GMono.name GMonos.nil (GOnly.name (by decide)) GOnlys.nil))) (GMono.tup (GMonos.cons GMono.name (GMonos.cons GMono.name GMonos.nil))) (fun _ _ _ _ _ => (dg_tup (n := 2) rfl rfl (dgs_cons (dg_name (i := 9) nd rfl (by first | exact Or.inl rfl | exact Or.inr rfl)) (dgs_cons (dg_name (i := 5) nd rfl (by first | exact Or.inl rfl | exact Or.inr rfl)) dgs_nil)))) (fun _ _ _ _ _ => dts_nil) (fun _ _ _ _ _ => (dv 9))) da_nil)))
      (dss_cons (ds_setLc (i := 4) (own := [("_", 5), ("size", 8)]) rfl nd rfl rfl (sw_true rfl rfl rfl (by decide +kernel)) (di_any rfl (dv 1)) (blkOk_by (N := N_Machine_init) (sc := defScope s_Machine_init) (by decide +kernel)) (GOnly.tup (GOnlys.cons GMono.name (GMonos.cons GMono.name GMonos.nil) (GOnly.name (by decide)) (GOnlys.cons GMono.name GMonos.nil (GOnly.name (by decide)) GOnlys.nil))) (GMono.tup (GMonos.cons GMono.name (GMonos.cons GMono.name GMonos.nil))) (fun _ _ _ _ _ => (dg_tup (n := 2) rfl rfl (dgs_cons (dg_name (i := 5) nd rfl (by first | exact Or.inl rfl | exact Or.inr rfl)) (dgs_cons (dg_name (i := 8) nd rfl (by first | exact Or.inl rfl | exact Or.inr rfl)) dgs_nil)))) (fun _ _ _ _ _ => dts_nil) (fun _ _ _ _ _ => (dv 8)))
      (dss_cons (ds_if (dt_not (dt_truth (de_callB (call_allA rfl rfl) cd_all (by rfl) T.n_all bo_all (da_cons (de_lc (own := [("size", 8)]) rfl nd (di_any rfl (dv 4)) (blkOk_by (N := N_Machine_init) (sc := defScope s_Machine_init) (by decide +kernel)) (GOnly.name (by decide)) GMono.name (fun _ _ _ _ _ => (dg_name (i := 8) nd rfl (by first | exact Or.inl rfl | exact Or.inr rfl))) (fun _ _ _ _ _ => dts_nil) (fun _ _ _ _ _ => (de_chain op_le od_le op_le od_le de_int (dv 8) (de_gint T.c_MOST_VALUES)))) da_nil))))
      (dss_one (ds_raiseC T.x_InvalidMachine rfl takesD rfl))
      dss_nil)
      (dss_cons (ds_expr (de_callN G__check_names hr rfl rfl takesD (da_cons (de_lc (own := [("deed", 10)]) rfl nd (di_any rfl (dv 2)) (blkOk_by (N := N_Machine_init) (sc := defScope s_Machine_init) (by decide +kernel)) (GOnly.name (by decide)) GMono.name (fun _ _ _ _ _ => (dg_name (i := 10) nd rfl (by first | exact Or.inl rfl | exact Or.inr rfl))) (fun _ _ _ _ _ => dts_nil) (fun _ _ _ _ _ => (de_ix rfl (hu1 hr) (dv 10) de_int))) da_nil)))
      (dss_cons (ds_for passD rfl (di_any rfl (dv 2)) (dg_tup (n := 3) rfl rfl (dgs_cons (dg_name (i := 5) nd rfl (by first | exact Or.inl rfl | exact Or.inr rfl)) (dgs_cons (dg_name (i := 6) nd rfl (by first | exact Or.inl rfl | exact Or.inr rfl)) (dgs_cons (dg_name (i := 7) nd rfl (by first | exact Or.inl rfl | exact Or.inr rfl)) dgs_nil))))
      (dss_cons (ds_expr (de_callN G__check_order (hr.mono (by decide)) rfl rfl takesD (da_cons (dv 6) (da_cons (de_callB (call_lenA rfl) cd_len (by rfl) T.n_len bo_len (da_cons (dv 1) da_nil)) da_nil))))
      (dss_cons (ds_expr (de_callN G__check_order (hr.mono (by decide)) rfl rfl takesD (da_cons (dv 7) (da_cons (de_callB (call_lenA rfl) cd_len (by rfl) T.n_len bo_len (da_cons (dv 1) da_nil)) da_nil))))
      (dss_one (ds_expr (de_methIO G_Machine__check_deed hr rfl takesD (dv 0) (da_cons (dv 4) (da_cons (dv 6) (da_cons (dv 7) da_nil)))))))))
      (dss_cons (ds_if (DW.pt (dw_or (dt_cmp (op_neA rfl (hu64 hr)) od_ne (de_callB (call_lenA rfl) cd_len (by rfl) T.n_len bo_len (da_cons (dv 3) da_nil)) (de_callB (call_lenA rfl) cd_len (by rfl) T.n_len bo_len (da_cons (dv 1) da_nil)) (nomark _)) (dw_or1 (dt_not (dt_truth (de_callB (call_allA rfl rfl) cd_all (by rfl) T.n_all bo_all (da_cons (de_lc (own := [("mask", 11), ("size", 8)]) rfl nd (di_zipM rfl (by rfl) T.n_zip (da_cons (dv 3) (da_cons (dv 4) da_nil))) (blkOk_by (N := N_Machine_init) (sc := defScope s_Machine_init) (by decide +kernel)) (GOnly.tup (GOnlys.cons GMono.name (GMonos.cons GMono.name GMonos.nil) (GOnly.name (by decide)) (GOnlys.cons GMono.name GMonos.nil (GOnly.name (by decide)) GOnlys.nil))) (GMono.tup (GMonos.cons GMono.name (GMonos.cons GMono.name GMonos.nil))) (fun _ _ _ _ _ => (dg_tup (n := 2) rfl rfl (dgs_cons (dg_name (i := 11) nd rfl (by first | exact Or.inl rfl | exact Or.inr rfl)) (dgs_cons (dg_name (i := 8) nd rfl (by first | exact Or.inl rfl | exact Or.inr rfl)) dgs_nil)))) (fun _ _ _ _ _ => dts_nil) (fun _ _ _ _ _ => (de_callN G_is_mask (hr.mono (by decide)) rfl rfl takes_blk (da_cons (dv 11) (da_cons (dv 8) da_nil))))) da_nil)))))))
      (dss_one (ds_raiseC T.x_InvalidMachine rfl takesD rfl))
      dss_nil)
      (dss_cons (ds_setA (i := 0) (f := "cells") (fun C => C = C_Machine) rfl T.at_cells rfl (de_callTy (call_tupleA rfl) cd_tuple (by rfl) T.n_tuple bo_tuple (da_cons (de_lc (own := [("name", 9), ("size", 8)]) rfl nd (di_any rfl (dv 1)) (blkOk_by (N := N_Machine_init) (sc := defScope s_Machine_init) (by decide +kernel)) (GOnly.tup (GOnlys.cons GMono.name (GMonos.cons GMono.name GMonos.nil) (GOnly.name (by decide)) (GOnlys.cons GMono.name GMonos.nil (GOnly.name (by decide)) GOnlys.nil))) (GMono.tup (GMonos.cons GMono.name (GMonos.cons GMono.name GMonos.nil))) (fun _ _ _ _ _ => (dg_tup (n := 2) rfl rfl (dgs_cons (dg_name (i := 9) nd rfl (by first | exact Or.inl rfl | exact Or.inr rfl)) (dgs_cons (dg_name (i := 8) nd rfl (by first | exact Or.inl rfl | exact Or.inr rfl)) dgs_nil)))) (fun _ _ _ _ _ => dts_nil) (fun _ _ _ _ _ => (de_tup (da_cons (dv 9) (da_cons (dv 8) da_nil))))) da_nil)))
      (dss_cons (ds_setA (i := 0) (f := "deeds") (fun C => C = C_Machine) rfl T.at_deeds rfl (de_callTy (call_tupleA rfl) cd_tuple (by rfl) T.n_tuple bo_tuple (da_cons (de_lc (own := [("name", 9), ("guard", 6), ("changes", 7)]) rfl nd (di_any rfl (dv 2)) (blkOk_by (N := N_Machine_init) (sc := defScope s_Machine_init) (by decide +kernel)) (GOnly.tup (GOnlys.cons GMono.name (GMonos.cons GMono.name (GMonos.cons GMono.name GMonos.nil)) (GOnly.name (by decide)) (GOnlys.cons GMono.name (GMonos.cons GMono.name GMonos.nil) (GOnly.name (by decide)) (GOnlys.cons GMono.name GMonos.nil (GOnly.name (by decide)) GOnlys.nil)))) (GMono.tup (GMonos.cons GMono.name (GMonos.cons GMono.name (GMonos.cons GMono.name GMonos.nil)))) (fun _ _ _ _ _ => (dg_tup (n := 3) rfl rfl (dgs_cons (dg_name (i := 9) nd rfl (by first | exact Or.inl rfl | exact Or.inr rfl)) (dgs_cons (dg_name (i := 6) nd rfl (by first | exact Or.inl rfl | exact Or.inr rfl)) (dgs_cons (dg_name (i := 7) nd rfl (by first | exact Or.inl rfl | exact Or.inr rfl)) dgs_nil))))) (fun _ _ _ _ _ => dts_nil) (fun _ _ _ _ _ => (de_tup (da_cons (dv 9) (da_cons (de_callTy (call_tupleA rfl) cd_tuple (by rfl) T.n_tuple bo_tuple (da_cons (dv 6) da_nil)) (da_cons (de_callTy (call_tupleA rfl) cd_tuple (by rfl) T.n_tuple bo_tuple (da_cons (dv 7) da_nil)) da_nil)))))) da_nil)))
      (dss_one (ds_setA (i := 0) (f := "first") (fun C => C = C_Machine) rfl T.at_first rfl (de_callTy (call_tupleA rfl) cd_tuple (by rfl) T.n_tuple bo_tuple (da_cons (dv 3) da_nil))))))))))))), ?_⟩
  intro ms Rd h
  unfold c_Machine_init at h
  split at h <;> first | exact (show False from h).elim | skip
  rename_i C cm dm fm
  obtain ⟨M, rfl, ec, ed, ef, ok, q⟩ := h
  have hsq : ∃ CD : D, cm.frz = CD ∧ CD.items = some (M.cells.map cellD) ∧ ∀ k l, opz (dLen CD) k l = k (.fz (.int ((M.cells.map cellD).length : Nat))) := by
    rcases ec with ec | ec
    · exact ⟨_, ec, rfl, fun k l => o_lenL⟩
    · exact ⟨_, ec, rfl, fun k l => o_lenT⟩
  clear ec
  obtain ⟨CD, ec, hci, hcl⟩ := hsq
  have hz := ok.wf.sz
  have hl := sz_len M
  have hd4 := ok.le
  have h24 : 1 ≤ M.sz.length ∧ M.sz.length ≤ 24 := hz.1
  simp -dsimp only [↓DL.qd, DL.qu, DL.qs, ↓DL.s_seq, mkD, D.key, dgetM, hide, hideS, Slot.fr?, Slot.m?, Slot.put, D.seqs, D.tyN, startD, List.replicate, Nat.reduceSub, Nat.reduceAdd, Nat.reduceLeDiff, wipeD, unw, freeAt, Slot.free, Nat.reduceEqDiff, id_eq, eq_self, c_Machine__check_deed, c__check_names, c__check_order, c_is_mask, qc, ↓DL.qtd, DL.qtu, ↓DL.qfd, DL.qfu,  ec, hcl, hci, ed, ef, List.length_map]
  refine br_dec (fun h => by omega) (fun _ => ?_)
  simp -dsimp only [↓DL.qd, DL.qu, DL.qs, ↓DL.s_seq, mkD, D.key, dgetM, hide, hideS, Slot.fr?, Slot.m?, Slot.put, D.seqs, D.tyN, startD, List.replicate, Nat.reduceSub, Nat.reduceAdd, Nat.reduceLeDiff, wipeD, unw, freeAt, Slot.free, Nat.reduceEqDiff, id_eq, eq_self, c_Machine__check_deed, c__check_names, c__check_order, c_is_mask, qc, ↓DL.qtd, DL.qtu, ↓DL.qfd, DL.qfu,  ec, hcl, hci, ed, ef, List.length_map]
  refine br_dec (fun h => by omega) (fun _ => ?_)
  simp -dsimp only [↓DL.qd, DL.qu, DL.qs, ↓DL.s_seq, mkD, D.key, dgetM, hide, hideS, Slot.fr?, Slot.m?, Slot.put, D.seqs, D.tyN, startD, List.replicate, Nat.reduceSub, Nat.reduceAdd, Nat.reduceLeDiff, wipeD, unw, freeAt, Slot.free, Nat.reduceEqDiff, id_eq, eq_self, c_Machine__check_deed, c__check_names, c__check_order, c_is_mask, qc, ↓DL.qtd, DL.qtu, ↓DL.qfd, DL.qfu,  ec, hcl, hci, ed, ef, List.length_map]
  refine br_dec (fun h => by omega) (fun _ => ?_)
  simp -dsimp only [↓DL.qd, DL.qu, DL.qs, ↓DL.s_seq, mkD, D.key, dgetM, hide, hideS, Slot.fr?, Slot.m?, Slot.put, D.seqs, D.tyN, startD, List.replicate, Nat.reduceSub, Nat.reduceAdd, Nat.reduceLeDiff, wipeD, unw, freeAt, Slot.free, Nat.reduceEqDiff, id_eq, eq_self, c_Machine__check_deed, c__check_names, c__check_order, c_is_mask, qc, ↓DL.qtd, DL.qtu, ↓DL.qfd, DL.qfu,  ec, hcl, hci, ed, ef, List.length_map]
  have lc : M.cells.length ≤ sizeLine := by unfold sizeLine; omega
  have ld : M.ds.length ≤ sizeLine := by unfold sizeLine; omega
  refine lcR_mapE (fun s => s = [.p x0 (.mo C .nil), .v (.fz CD), .v dm, .v fm, .un, .un, .un, .un, .un, .un, .un, .un]) (fun c => .str c.1) lc rfl ?_ ?_
  · rintro ⟨x, z⟩ hx s rfl R hR
    unfold cellD
    simp -dsimp only [↓DL.qd, DL.qu, DL.qs, ↓DL.s_seq, mkD, D.key, dgetM, hide, hideS, Slot.fr?, Slot.m?, Slot.put, D.seqs, D.tyN, startD, List.replicate, Nat.reduceSub, Nat.reduceAdd, Nat.reduceLeDiff, wipeD, unw, freeAt, Slot.free, Nat.reduceEqDiff, id_eq, eq_self, c_Machine__check_deed, c__check_names, c__check_order, c_is_mask, qc, ↓DL.qtd, DL.qtu, ↓DL.qfd, DL.qfu,  hci, hcl]
    exact hR _ _ rfl rfl
  rintro s' rfl
  simp -dsimp only [↓DL.qd, DL.qu, DL.qs, ↓DL.s_seq, mkD, D.key, dgetM, hide, hideS, Slot.fr?, Slot.m?, Slot.put, D.seqs, D.tyN, startD, List.replicate, Nat.reduceSub, Nat.reduceAdd, Nat.reduceLeDiff, wipeD, unw, freeAt, Slot.free, Nat.reduceEqDiff, id_eq, eq_self, c_Machine__check_deed, c__check_names, c__check_order, c_is_mask, qc, ↓DL.qtd, DL.qtu, ↓DL.qfd, DL.qfu,  hci, hcl]
  refine ⟨M.cells.map (·.1), by simp, fun x hx => ?_, ok.dc, by simp; omega, ?_⟩
  · obtain ⟨c, hc, rfl⟩ := List.mem_map.mp hx
    exact ok.nc c hc
  try simp -dsimp only [↓DL.qd, DL.qu, DL.qs, ↓DL.s_seq, mkD, D.key, dgetM, hide, hideS, Slot.fr?, Slot.m?, Slot.put, D.seqs, D.tyN, startD, List.replicate, Nat.reduceSub, Nat.reduceAdd, Nat.reduceLeDiff, wipeD, unw, freeAt, Slot.free, Nat.reduceEqDiff, id_eq, eq_self, c_Machine__check_deed, c__check_names, c__check_order, c_is_mask, qc, ↓DL.qtd, DL.qtu, ↓DL.qfd, DL.qfu,  hci, hcl]
  refine lcR_mapE (fun s => s = [.p x0 (.mo C .nil), .v (.fz CD), .v dm, .v fm, .un, .un, .un, .un, .un, .un, .un, .un]) (fun c => .int c.2) lc rfl ?_ ?_
  · rintro ⟨x, z⟩ hx s rfl R hR
    unfold cellD
    simp -dsimp only [↓DL.qd, DL.qu, DL.qs, ↓DL.s_seq, mkD, D.key, dgetM, hide, hideS, Slot.fr?, Slot.m?, Slot.put, D.seqs, D.tyN, startD, List.replicate, Nat.reduceSub, Nat.reduceAdd, Nat.reduceLeDiff, wipeD, unw, freeAt, Slot.free, Nat.reduceEqDiff, id_eq, eq_self, c_Machine__check_deed, c__check_names, c__check_order, c_is_mask, qc, ↓DL.qtd, DL.qtu, ↓DL.qfd, DL.qfu,  hci, hcl]
    exact hR _ _ rfl rfl
  rintro s' rfl
  have esz : M.cells.map (fun c => D.int c.2) = M.sz.map .int := by unfold Mach.sz; rw [List.map_map]; rfl
  rw [esz]
  simp -dsimp only [↓DL.qd, DL.qu, DL.qs, ↓DL.s_seq, mkD, D.key, dgetM, hide, hideS, Slot.fr?, Slot.m?, Slot.put, D.seqs, D.tyN, startD, List.replicate, Nat.reduceSub, Nat.reduceAdd, Nat.reduceLeDiff, wipeD, unw, freeAt, Slot.free, Nat.reduceEqDiff, id_eq, eq_self, c_Machine__check_deed, c__check_names, c__check_order, c_is_mask, qc, ↓DL.qtd, DL.qtu, ↓DL.qfd, DL.qfu,  hci, hcl]
  refine lcR_mapE (fun s => ∃ a, s = [.p x0 (.mo C .nil), .v (.fz CD), .v dm, .v fm, .v a, .un, .un, .un, .un, .un, .un, .un] ∧ a = .fz (.lst (M.sz.map .int))) (fun z => .bl true) (by omega) ⟨_, rfl, rfl⟩ ?_ ?_
  · rintro z hx s ⟨a, rfl, rfl⟩ R hR
    obtain ⟨i, hi, rfl⟩ := List.getElem_of_mem hx
    have h2 := hz.2 i hi
    rw [gi_of (List.getElem?_eq_getElem hi)] at h2
    repeat' (first | refine br_dec (fun h => ?_) (fun h => ?_) | refine br_ndec (fun h => ?_) (fun h => ?_) | simp -dsimp only [↓DL.qd, DL.qu, DL.qs, ↓DL.s_seq, mkD, D.key, dgetM, hide, hideS, Slot.fr?, Slot.m?, Slot.put, D.seqs, D.tyN, startD, List.replicate, Nat.reduceSub, Nat.reduceAdd, Nat.reduceLeDiff, wipeD, unw, freeAt, Slot.free, Nat.reduceEqDiff, id_eq, eq_self, c_Machine__check_deed, c__check_names, c__check_order, c_is_mask, qc, ↓DL.qtd, DL.qtu, ↓DL.qfd, DL.qfu])
    all_goals first | omega | exact hR _ _ (by simp [DL.M.frz]; omega) ⟨_, rfl, rfl⟩
  rintro s' ⟨a, rfl, rfl⟩
  simp -dsimp only [↓DL.qd, DL.qu, DL.qs, ↓DL.s_seq, mkD, D.key, dgetM, hide, hideS, Slot.fr?, Slot.m?, Slot.put, D.seqs, D.tyN, startD, List.replicate, Nat.reduceSub, Nat.reduceAdd, Nat.reduceLeDiff, wipeD, unw, freeAt, Slot.free, Nat.reduceEqDiff, id_eq, eq_self, c_Machine__check_deed, c__check_names, c__check_order, c_is_mask, qc, ↓DL.qtd, DL.qtu, ↓DL.qfd, DL.qfu,  hci, hcl]
  refine wD_of (boolL_mapf _ _) ?_
  rw [show (List.map (fun x => true) M.sz).all id = true by simp]
  simp -dsimp only [↓DL.qd, DL.qu, DL.qs, ↓DL.s_seq, mkD, D.key, dgetM, hide, hideS, Slot.fr?, Slot.m?, Slot.put, D.seqs, D.tyN, startD, List.replicate, Nat.reduceSub, Nat.reduceAdd, Nat.reduceLeDiff, wipeD, unw, freeAt, Slot.free, Nat.reduceEqDiff, id_eq, eq_self, c_Machine__check_deed, c__check_names, c__check_order, c_is_mask, qc, ↓DL.qtd, DL.qtu, ↓DL.qfd, DL.qfu,  ed, hci, hcl]
  refine lcR_mapE (fun s => s = [.p x0 (.mo C .nil), .v (.fz CD), .v (.fz (.lst (M.ds.map deedD))), .v fm, .v (.fz (.lst (M.sz.map .int))), .un, .un, .un, .un, .un, .un, .un]) (fun d => .str d.nm) ld rfl ?_ ?_
  · rintro d hx s rfl R hR
    simp -dsimp only [↓DL.qd, DL.qu, DL.qs, ↓DL.s_seq, mkD, D.key, dgetM, hide, hideS, Slot.fr?, Slot.m?, Slot.put, D.seqs, D.tyN, startD, List.replicate, Nat.reduceSub, Nat.reduceAdd, Nat.reduceLeDiff, wipeD, unw, freeAt, Slot.free, Nat.reduceEqDiff, id_eq, eq_self, c_Machine__check_deed, c__check_names, c__check_order, c_is_mask, qc, ↓DL.qtd, DL.qtu, ↓DL.qfd, DL.qfu,  deedD_eq]
    exact hR _ _ rfl rfl
  rintro s' rfl
  try simp -dsimp only [↓DL.qd, DL.qu, DL.qs, ↓DL.s_seq, mkD, D.key, dgetM, hide, hideS, Slot.fr?, Slot.m?, Slot.put, D.seqs, D.tyN, startD, List.replicate, Nat.reduceSub, Nat.reduceAdd, Nat.reduceLeDiff, wipeD, unw, freeAt, Slot.free, Nat.reduceEqDiff, id_eq, eq_self, c_Machine__check_deed, c__check_names, c__check_order, c_is_mask, qc, ↓DL.qtd, DL.qtu, ↓DL.qfd, DL.qfu,  hci, hcl]
  refine ⟨M.ds.map (·.nm), by simp, fun x hx => ?_, ok.dd, by simp; omega, ?_⟩
  · obtain ⟨d, hd, rfl⟩ := List.mem_map.mp hx
    exact ok.nd d hd
  try simp -dsimp only [↓DL.qd, DL.qu, DL.qs, ↓DL.s_seq, mkD, D.key, dgetM, hide, hideS, Slot.fr?, Slot.m?, Slot.put, D.seqs, D.tyN, startD, List.replicate, Nat.reduceSub, Nat.reduceAdd, Nat.reduceLeDiff, wipeD, unw, freeAt, Slot.free, Nat.reduceEqDiff, id_eq, eq_self, c_Machine__check_deed, c__check_names, c__check_order, c_is_mask, qc, ↓DL.qtd, DL.qtu, ↓DL.qfd, DL.qfu,  hci, hcl]
  refine for_ofE (fun i s => ∃ a b c : DL.Slot, s = [.p x0 (.mo C .nil), .v (.fz CD), .v (.fz (.lst (M.ds.map deedD))), .v fm, .v (.fz (.lst (M.sz.map .int))), a, b, c, .un, .un, .un, .un] ∧ a.free = true ∧ b.free = true ∧ c.free = true) ⟨_, _, _, rfl, rfl, rfl, rfl⟩ ?_ ?_
  · rintro i d s hd ⟨a, b, c, rfl, ha, hb, hc⟩ N B R hN - -
    have hw := ok.wf.ds d (List.mem_of_getElem? hd)
    simp -dsimp only [↓DL.qd, DL.qu, DL.qs, ↓DL.s_seq, mkD, D.key, dgetM, hide, hideS, Slot.fr?, Slot.m?, Slot.put, D.seqs, D.tyN, startD, List.replicate, Nat.reduceSub, Nat.reduceAdd, Nat.reduceLeDiff, wipeD, unw, freeAt, Slot.free, Nat.reduceEqDiff, id_eq, eq_self, c_Machine__check_deed, c__check_names, c__check_order, c_is_mask, qc, ↓DL.qtd, DL.qtu, ↓DL.qfd, DL.qfu,  hci, hcl, deedD_eq, gset_free (free_pin ha), gset_free (free_pin hb), gset_free (free_pin hc), List.length_map]
    refine ⟨d.g.map fun p => (p.1, .int p.2), by simp [gdD, Function.comp_def], by rw [List.map_map]; exact hw.1.1, fun p hp => ?_, ?_⟩
    · obtain ⟨p0, hp0, rfl⟩ := List.mem_map.mp hp
      have := (hw.1.2 p0 hp0).1
      show (p0.1 : Int) < _
      omega
    try simp -dsimp only [↓DL.qd, DL.qu, DL.qs, ↓DL.s_seq, mkD, D.key, dgetM, hide, hideS, Slot.fr?, Slot.m?, Slot.put, D.seqs, D.tyN, startD, List.replicate, Nat.reduceSub, Nat.reduceAdd, Nat.reduceLeDiff, wipeD, unw, freeAt, Slot.free, Nat.reduceEqDiff, id_eq, eq_self, c_Machine__check_deed, c__check_names, c__check_order, c_is_mask, qc, ↓DL.qtd, DL.qtu, ↓DL.qfd, DL.qfu,  hcl, List.length_map]
    refine ⟨d.c.map fun p => (p.1, srcD p.2), by simp [chD, Function.comp_def], by rw [List.map_map]; exact hw.2.1, fun p hp => ?_, ?_⟩
    · obtain ⟨p0, hp0, rfl⟩ := List.mem_map.mp hp
      have := (hw.2.2 p0 hp0).1
      show (p0.1 : Int) < _
      omega
    try simp -dsimp only [↓DL.qd, DL.qu, DL.qs, ↓DL.s_seq, mkD, D.key, dgetM, hide, hideS, Slot.fr?, Slot.m?, Slot.put, D.seqs, D.tyN, startD, List.replicate, Nat.reduceSub, Nat.reduceAdd, Nat.reduceLeDiff, wipeD, unw, freeAt, Slot.free, Nat.reduceEqDiff, id_eq, eq_self, c_Machine__check_deed, c__check_names, c__check_order, c_is_mask, qc, ↓DL.qtd, DL.qtu, ↓DL.qfd, DL.qfu,  hci, hcl]
    refine ⟨rfl, M.sz, d, rfl, rfl, rfl, hz, hw, ?_⟩
    try simp -dsimp only [↓DL.qd, DL.qu, DL.qs, ↓DL.s_seq, mkD, D.key, dgetM, hide, hideS, Slot.fr?, Slot.m?, Slot.put, D.seqs, D.tyN, startD, List.replicate, Nat.reduceSub, Nat.reduceAdd, Nat.reduceLeDiff, wipeD, unw, freeAt, Slot.free, Nat.reduceEqDiff, id_eq, eq_self, c_Machine__check_deed, c__check_names, c__check_order, c_is_mask, qc, ↓DL.qtd, DL.qtu, ↓DL.qfd, DL.qfu,  hci, hcl]
    exact hN _ ⟨_, _, _, rfl, rfl, rfl, rfl⟩
  rintro s ⟨a, b, c, rfl, ha, hb, hc⟩
  have lf : M.fi.length = M.cells.length := by rw [← hl]; exact ok.wf.fi.1
  unfold tupI at ef
  simp -dsimp only [↓DL.qd, DL.qu, DL.qs, ↓DL.s_seq, mkD, D.key, dgetM, hide, hideS, Slot.fr?, Slot.m?, Slot.put, D.seqs, D.tyN, startD, List.replicate, Nat.reduceSub, Nat.reduceAdd, Nat.reduceLeDiff, wipeD, unw, freeAt, Slot.free, Nat.reduceEqDiff, id_eq, eq_self, c_Machine__check_deed, c__check_names, c__check_order, c_is_mask, qc, ↓DL.qtd, DL.qtu, ↓DL.qfd, DL.qfu,  ef, hci, hcl, List.length_map]
  refine br_ndec (fun h => absurd (by omega) h) (fun _ => ?_)
  simp -dsimp only [↓DL.qd, DL.qu, DL.qs, ↓DL.s_seq, mkD, D.key, dgetM, hide, hideS, Slot.fr?, Slot.m?, Slot.put, D.seqs, D.tyN, startD, List.replicate, Nat.reduceSub, Nat.reduceAdd, Nat.reduceLeDiff, wipeD, unw, freeAt, Slot.free, Nat.reduceEqDiff, id_eq, eq_self, c_Machine__check_deed, c__check_names, c__check_order, c_is_mask, qc, ↓DL.qtd, DL.qtu, ↓DL.qfd, DL.qfu,  ef, hci, hcl, List.length_map, zipD_map]
  refine lcR_mapE (fun s' => s' = [.p x0 (.mo C .nil), .v (.fz CD), .v (.fz (.lst (M.ds.map deedD))), .v (.fz (.tup (M.fi.map .int))), .v (.fz (.lst (M.sz.map .int))), a, b, c, .un, .un, .un, .un]) (fun z => .bl true) (by rw [List.length_zip]; unfold sizeLine; omega) rfl ?_ ?_
  · rintro z hx s rfl R hR
    obtain ⟨i, hi, hi', rfl⟩ := zip_at hx
    have h2 := ok.wf.fi.2 i hi'
    have h3 := hz.2 i hi'
    simp -dsimp only [↓DL.qd, DL.qu, DL.qs, ↓DL.s_seq, mkD, D.key, dgetM, hide, hideS, Slot.fr?, Slot.m?, Slot.put, D.seqs, D.tyN, startD, List.replicate, Nat.reduceSub, Nat.reduceAdd, Nat.reduceLeDiff, wipeD, unw, freeAt, Slot.free, Nat.reduceEqDiff, id_eq, eq_self, c_Machine__check_deed, c__check_names, c__check_order, c_is_mask, qc, ↓DL.qtd, DL.qtu, ↓DL.qfd, DL.qfu,  Tel.prD]
    refine ⟨by omega, h3.2, ?_⟩
    try simp -dsimp only [↓DL.qd, DL.qu, DL.qs, ↓DL.s_seq, mkD, D.key, dgetM, hide, hideS, Slot.fr?, Slot.m?, Slot.put, D.seqs, D.tyN, startD, List.replicate, Nat.reduceSub, Nat.reduceAdd, Nat.reduceLeDiff, wipeD, unw, freeAt, Slot.free, Nat.reduceEqDiff, id_eq, eq_self, c_Machine__check_deed, c__check_names, c__check_order, c_is_mask, qc, ↓DL.qtd, DL.qtu, ↓DL.qfd, DL.qfu,  hci, hcl]
    refine hR _ _ ?_ rfl
    rw [decide_eq_true h2.1, decide_eq_true h2.2]
    rfl
  rintro s' rfl
  simp -dsimp only [↓DL.qd, DL.qu, DL.qs, ↓DL.s_seq, mkD, D.key, dgetM, hide, hideS, Slot.fr?, Slot.m?, Slot.put, D.seqs, D.tyN, startD, List.replicate, Nat.reduceSub, Nat.reduceAdd, Nat.reduceLeDiff, wipeD, unw, freeAt, Slot.free, Nat.reduceEqDiff, id_eq, eq_self, c_Machine__check_deed, c__check_names, c__check_order, c_is_mask, qc, ↓DL.qtd, DL.qtu, ↓DL.qfd, DL.qfu,  hci, hcl]
  refine wD_of (boolL_mapf _ _) ?_
  rw [show (List.map (fun x => true) (M.fi.zip M.sz)).all id = true by simp]
  simp -dsimp only [↓DL.qd, DL.qu, DL.qs, ↓DL.s_seq, mkD, D.key, dgetM, hide, hideS, Slot.fr?, Slot.m?, Slot.put, D.seqs, D.tyN, startD, List.replicate, Nat.reduceSub, Nat.reduceAdd, Nat.reduceLeDiff, wipeD, unw, freeAt, Slot.free, Nat.reduceEqDiff, id_eq, eq_self, c_Machine__check_deed, c__check_names, c__check_order, c_is_mask, qc, ↓DL.qtd, DL.qtu, ↓DL.qfd, DL.qfu,  hci, hcl]
  refine lcR_mapE (fun s' => s' = [.p x0 (.mo C .nil), .v (.fz CD), .v (.fz (.lst (M.ds.map deedD))), .v (.fz (.tup (M.fi.map .int))), .v (.fz (.lst (M.sz.map .int))), a, b, c, .un, .un, .un, .un]) cellD lc rfl ?_ ?_
  · rintro ⟨x, z⟩ hx s rfl R hR
    simp -dsimp only [↓DL.qd, DL.qu, DL.qs, ↓DL.s_seq, mkD, D.key, dgetM, hide, hideS, Slot.fr?, Slot.m?, Slot.put, D.seqs, D.tyN, startD, List.replicate, Nat.reduceSub, Nat.reduceAdd, Nat.reduceLeDiff, wipeD, unw, freeAt, Slot.free, Nat.reduceEqDiff, id_eq, eq_self, c_Machine__check_deed, c__check_names, c__check_order, c_is_mask, qc, ↓DL.qtd, DL.qtu, ↓DL.qfd, DL.qfu,  cellD_eq]
    refine ⟨by decide, hR _ _ ?_ rfl⟩
    rfl
  rintro s' rfl
  simp -dsimp only [↓DL.qd, DL.qu, DL.qs, ↓DL.s_seq, mkD, D.key, dgetM, hide, hideS, Slot.fr?, Slot.m?, Slot.put, D.seqs, D.tyN, startD, List.replicate, Nat.reduceSub, Nat.reduceAdd, Nat.reduceLeDiff, wipeD, unw, freeAt, Slot.free, Nat.reduceEqDiff, id_eq, eq_self, c_Machine__check_deed, c__check_names, c__check_order, c_is_mask, qc, ↓DL.qtd, DL.qtu, ↓DL.qfd, DL.qfu,  hci, hcl]
  refine ⟨by decide, ?_⟩
  refine lcR_mapE (fun s' => s' = [.p x0 (.mo C (.cons "cells" (.fz (.tup (M.cells.map cellD))) .nil)), .v (.fz CD), .v (.fz (.lst (M.ds.map deedD))), .v (.fz (.tup (M.fi.map .int))), .v (.fz (.lst (M.sz.map .int))), a, b, c, .un, .un, .un, .un]) deedD ld rfl ?_ ?_
  · rintro d hx s rfl R hR
    simp -dsimp only [↓DL.qd, DL.qu, DL.qs, ↓DL.s_seq, mkD, D.key, dgetM, hide, hideS, Slot.fr?, Slot.m?, Slot.put, D.seqs, D.tyN, startD, List.replicate, Nat.reduceSub, Nat.reduceAdd, Nat.reduceLeDiff, wipeD, unw, freeAt, Slot.free, Nat.reduceEqDiff, id_eq, eq_self, c_Machine__check_deed, c__check_names, c__check_order, c_is_mask, qc, ↓DL.qtd, DL.qtu, ↓DL.qfd, DL.qfu,  deedD_eq]
    refine ⟨?_, ?_⟩
    · show (true && (b.free && c.free)) = true
      rw [hb, hc]
      rfl
    exact ⟨by decide, hR _ _ rfl rfl⟩
  rintro s' rfl
  simp -dsimp only [↓DL.qd, DL.qu, DL.qs, ↓DL.s_seq, mkD, D.key, dgetM, hide, hideS, Slot.fr?, Slot.m?, Slot.put, D.seqs, D.tyN, startD, List.replicate, Nat.reduceSub, Nat.reduceAdd, Nat.reduceLeDiff, wipeD, unw, freeAt, Slot.free, Nat.reduceEqDiff, id_eq, eq_self, c_Machine__check_deed, c__check_names, c__check_order, c_is_mask, qc, ↓DL.qtd, DL.qtu, ↓DL.qfd, DL.qfu,  ef, hci, hcl]
  refine ⟨by decide, ?_⟩
  try simp -dsimp only [↓DL.qd, DL.qu, DL.qs, ↓DL.s_seq, mkD, D.key, dgetM, hide, hideS, Slot.fr?, Slot.m?, Slot.put, D.seqs, D.tyN, startD, List.replicate, Nat.reduceSub, Nat.reduceAdd, Nat.reduceLeDiff, wipeD, unw, freeAt, Slot.free, Nat.reduceEqDiff, id_eq, eq_self, c_Machine__check_deed, c__check_names, c__check_order, c_is_mask, qc, ↓DL.qtd, DL.qtu, ↓DL.qfd, DL.qfu,  hci, hcl]
  refine ⟨by decide, ?_⟩
  try simp -dsimp only [↓DL.qd, DL.qu, DL.qs, ↓DL.s_seq, mkD, D.key, dgetM, hide, hideS, Slot.fr?, Slot.m?, Slot.put, D.seqs, D.tyN, startD, List.replicate, Nat.reduceSub, Nat.reduceAdd, Nat.reduceLeDiff, wipeD, unw, freeAt, Slot.free, Nat.reduceEqDiff, id_eq, eq_self, c_Machine__check_deed, c__check_names, c__check_order, c_is_mask, qc, ↓DL.qtd, DL.qtu, ↓DL.qfd, DL.qfu,  pins_free (free_pin ha), pins_free (free_pin hb), pins_free (free_pin hc)]
  exact q
end
end K45
namespace K45
open PySem PySem.Spec L2 DL Msk Tel
section
variable {P : Program} {w : World} {K : PySem.W.Frag} {mg : Str → Option Value} {base : Heap} {TB : List (Addr × Str)} {C_WreckError C_InvalidMachine C_InvalidDisk C_InvalidSketch C_NoSuchDeed C_CannotDo C_InvalidForm C_InvalidFile C_NoRoom C_Machine C_StripeForm : Addr}
def c_check_deed (C_Machine C_NoSuchDeed : Addr) : CT
  | [.fz m, .fz (.int k)], R, X => ∃ M : Mach, m = machD C_Machine M ∧ M.ds.length ≤ 400 ∧ (0 ≤ k → k < M.ds.length → R (.fz .non) []) ∧ (k < 0 ∨ (M.ds.length : Int) ≤ k → X (.ref C_NoSuchDeed) none [])
  | _, _, _ => False
theorem sc_check_deed : FnScope N_check_deed ["machine", "deed"] (defScope s_check_deed) := ⟨rfl, rfl, rfl, by decide +kernel, rfl, by decide +kernel, by decide +kernel⟩
theorem ok_check_deed (T : Txt K mg P w C_WreckError C_InvalidMachine C_InvalidDisk C_InvalidSketch C_NoSuchDeed C_CannotDo C_InvalidForm C_InvalidFile C_NoRoom C_Machine C_StripeForm) (F : TopFn K mg "check_deed" s_check_deed ["machine", "deed"]) : FnAt P w K mg base TB 1 "check_deed" ["machine", "deed"] false (c_check_deed C_Machine C_NoSuchDeed) := by
  have nd := sc_check_deed.nd
  refine fnAt F sc_check_deed (fun ms R X h => by unfold c_check_deed at h; split at h <;> first | rfl | exact h.elim) (fun h => by cases h) fun f cdv A outer s H E x0 Xd hr => ?_
  refine ⟨_, _, (dss_one (ds_if (DW.pt (dw_or (dt_cmp op_lt od_lt (dv 1) de_int (nomark _)) (dw_or1 (dt_cmp op_ge od_ge (dv 1) (de_callB (call_lenA rfl) cd_len (by rfl) T.n_len bo_len (da_cons (de_attr (f := "deeds") (fun C => C = C_Machine) rfl T.at_deeds (dv 0)) da_nil)) (nomark _)))))
      (dss_one (ds_raiseC T.x_NoSuchDeed rfl takesD rfl))
      dss_nil)), ?_⟩
  intro ms Rd h
  unfold c_check_deed at h
  split at h <;> first | exact (show False from h).elim | skip
  rename_i m k
  obtain ⟨M, rfl, h400, q, qx⟩ := h
  unfold machD
  simp -dsimp only [↓DL.qd, DL.qu, DL.qs, ↓DL.s_seq, mkD, D.key, dgetM, hide, hideS, Slot.fr?, Slot.m?, Slot.put, D.seqs, D.tyN, startD, List.replicate, Nat.reduceSub, Nat.reduceAdd, Nat.reduceLeDiff, wipeD, unw, freeAt, Slot.free, Nat.reduceEqDiff, id_eq, eq_self, qc, ↓DL.qtd, DL.qtu, ↓DL.qfd, DL.qfu,  List.length_map]
  refine br_dec (fun h => ?_) (fun h1 => ?_)
  · simp -dsimp only [↓DL.qd, DL.qu, DL.qs, ↓DL.s_seq, mkD, D.key, dgetM, hide, hideS, Slot.fr?, Slot.m?, Slot.put, D.seqs, D.tyN, startD, List.replicate, Nat.reduceSub, Nat.reduceAdd, Nat.reduceLeDiff, wipeD, unw, freeAt, Slot.free, Nat.reduceEqDiff, id_eq, eq_self, qc, ↓DL.qtd, DL.qtu, ↓DL.qfd, DL.qfu]
    exact qx (.inl h)
  simp -dsimp only [↓DL.qd, DL.qu, DL.qs, ↓DL.s_seq, mkD, D.key, dgetM, hide, hideS, Slot.fr?, Slot.m?, Slot.put, D.seqs, D.tyN, startD, List.replicate, Nat.reduceSub, Nat.reduceAdd, Nat.reduceLeDiff, wipeD, unw, freeAt, Slot.free, Nat.reduceEqDiff, id_eq, eq_self, qc, ↓DL.qtd, DL.qtu, ↓DL.qfd, DL.qfu,  List.length_map]
  refine br_dec (fun h => ?_) (fun h2 => ?_)
  · simp -dsimp only [↓DL.qd, DL.qu, DL.qs, ↓DL.s_seq, mkD, D.key, dgetM, hide, hideS, Slot.fr?, Slot.m?, Slot.put, D.seqs, D.tyN, startD, List.replicate, Nat.reduceSub, Nat.reduceAdd, Nat.reduceLeDiff, wipeD, unw, freeAt, Slot.free, Nat.reduceEqDiff, id_eq, eq_self, qc, ↓DL.qtd, DL.qtu, ↓DL.qfd, DL.qfu]
    exact qx (.inr (by omega))
  simp -dsimp only [↓DL.qd, DL.qu, DL.qs, ↓DL.s_seq, mkD, D.key, dgetM, hide, hideS, Slot.fr?, Slot.m?, Slot.put, D.seqs, D.tyN, startD, List.replicate, Nat.reduceSub, Nat.reduceAdd, Nat.reduceLeDiff, wipeD, unw, freeAt, Slot.free, Nat.reduceEqDiff, id_eq, eq_self, qc, ↓DL.qtd, DL.qtu, ↓DL.qfd, DL.qfu]
  exact q (by omega) (by omega)
def kept (M : Mach) (js : List Nat) : List Nat := (List.range M.ds.length).filter fun k => !decide (k ∈ js)
end
end K45
namespace K45
open PySem PySem.Spec L2 DL Msk Tel
section
variable {P : Program} {w : World} {K : PySem.W.Frag} {mg : Str → Option Value} {base : Heap} {TB : List (Addr × Str)} {C_WreckError C_InvalidMachine C_InvalidDisk C_InvalidSketch C_NoSuchDeed C_CannotDo C_InvalidForm C_InvalidFile C_NoRoom C_Machine C_StripeForm : Addr}
def c_check_disk (C_Machine C_InvalidDisk : Addr) : CT
  | [.fz m, .fz s], R, X => ∃ (M : Mach) (S : List Int), m = machD C_Machine M ∧ s = tupI S ∧ wfS M.sz ∧ (dk M.sz S → R (.fz .non) []) ∧ (¬ dk M.sz S → X (.ref C_InvalidDisk) none [])
  | _, _, _ => False
theorem sc_check_disk : FnScope N_check_disk ["machine", "disk"] (defScope s_check_disk) := ⟨rfl, rfl, rfl, by decide +kernel, rfl, by decide +kernel, by decide +kernel⟩
theorem ok_check_disk (T : Txt K mg P w C_WreckError C_InvalidMachine C_InvalidDisk C_InvalidSketch C_NoSuchDeed C_CannotDo C_InvalidForm C_InvalidFile C_NoRoom C_Machine C_StripeForm) (F : TopFn K mg "check_disk" s_check_disk ["machine", "disk"]) : FnAt P w K mg base TB 1 "check_disk" ["machine", "disk"] false (c_check_disk C_Machine C_InvalidDisk) := by
  have nd := sc_check_disk.nd
  refine fnAt F sc_check_disk (fun ms R X h => by unfold c_check_disk at h; split at h <;> first | rfl | exact h.elim) (fun h => by cases h) fun f cdv A outer s H E x0 Xd hr => ?_
  refine ⟨_, _, (dss_cons (ds_if (dt_cmp (op_neA rfl (hu64 hr)) od_ne (de_callB (call_lenA rfl) cd_len (by rfl) T.n_len bo_len (da_cons (dv 1) da_nil)) (de_callB (call_lenA rfl) cd_len (by rfl) T.n_len bo_len (da_cons (de_attr (f := "cells") (fun C => C = C_Machine) rfl T.at_cells (dv 0)) da_nil)) (nomark _))
      (dss_one (ds_raiseC T.x_InvalidDisk rfl takesD rfl))
      dss_nil)
      (dss_one (ds_for passD rfl (di_zipM rfl (by rfl) T.n_zip (da_cons (dv 1) (da_cons (de_attr (f := "cells") (fun C => C = C_Machine) rfl T.at_cells (dv 0)) da_nil))) (dg_tup (n := 2) rfl rfl (dgs_cons (dg_name (i := 2) nd rfl (by first | exact Or.inl rfl | exact Or.inr rfl)) (dgs_cons (dg_tup (n := 2) rfl rfl (dgs_cons (dg_name (i := 3) nd rfl (by first | exact Or.inl rfl | exact Or.inr rfl)) (dgs_cons (dg_name (i := 4) nd rfl (by first | exact Or.inl rfl | exact Or.inr rfl)) dgs_nil))) dgs_nil)))
      (dss_one (ds_if (DW.pt (dw_or (dt_cmp op_lt od_lt (dv 2) de_int (nomark _)) (dw_or1 (dt_cmp op_ge od_ge (dv 2) (dv 4) (nomark _)))))
      (dss_one (ds_raiseC T.x_InvalidDisk rfl takesD rfl))
      dss_nil))))), ?_⟩
  intro ms Rd h
  unfold c_check_disk at h
  split at h <;> first | exact (show False from h).elim | skip
  rename_i m s
  obtain ⟨M, S, rfl, rfl, hz, q, qx⟩ := h
  have hl := sz_len M
  have h24 : 1 ≤ M.sz.length ∧ M.sz.length ≤ 24 := hz.1
  unfold machD tupI
  simp -dsimp only [↓DL.qd, DL.qu, DL.qs, ↓DL.s_seq, mkD, D.key, dgetM, hide, hideS, Slot.fr?, Slot.m?, Slot.put, D.seqs, D.tyN, startD, List.replicate, Nat.reduceSub, Nat.reduceAdd, Nat.reduceLeDiff, wipeD, unw, freeAt, Slot.free, Nat.reduceEqDiff, id_eq, eq_self, qc, ↓DL.qtd, DL.qtu, ↓DL.qfd, DL.qfu]
  refine br_ndec (fun h => ?_) (fun h => ?_)
  · simp -dsimp only [↓DL.qd, DL.qu, DL.qs, ↓DL.s_seq, mkD, D.key, dgetM, hide, hideS, Slot.fr?, Slot.m?, Slot.put, D.seqs, D.tyN, startD, List.replicate, Nat.reduceSub, Nat.reduceAdd, Nat.reduceLeDiff, wipeD, unw, freeAt, Slot.free, Nat.reduceEqDiff, id_eq, eq_self, qc, ↓DL.qtd, DL.qtu, ↓DL.qfd, DL.qfu]
    exact qx fun c => h (by simp [c.1]; omega)
  have hSl : S.length = M.sz.length := by simp at h; omega
  simp -dsimp only [↓DL.qd, DL.qu, DL.qs, ↓DL.s_seq, mkD, D.key, dgetM, hide, hideS, Slot.fr?, Slot.m?, Slot.put, D.seqs, D.tyN, startD, List.replicate, Nat.reduceSub, Nat.reduceAdd, Nat.reduceLeDiff, wipeD, unw, freeAt, Slot.free, Nat.reduceEqDiff, id_eq, eq_self, qc, ↓DL.qtd, DL.qtu, ↓DL.qfd, DL.qfu,  zipD_map]
  refine for_ofE (fun i s => ∃ a b c : DL.Slot, s = [.v (.fz (machD C_Machine M)), .v (.fz (tupI S)), a, b, c] ∧ a.free = true ∧ b.free = true ∧ c.free = true ∧ ∀ j, j < i → 0 ≤ gi S j ∧ gi S j < gi M.sz j) ⟨_, _, _, rfl, rfl, rfl, rfl, fun j hj => by omega⟩ ?_ ?_
  · rintro i ⟨m, x, z⟩ s hp ⟨a, b, c, rfl, ha, hb, hc, hall⟩ N B R hN - -
    obtain ⟨h1, h2, h3, h4⟩ := zipc_at hp
    have h3 : m = gi S i := h3
    have h4 : z = gi M.sz i := h4
    simp -dsimp only [↓DL.qd, DL.qu, DL.qs, ↓DL.s_seq, mkD, D.key, dgetM, hide, hideS, Slot.fr?, Slot.m?, Slot.put, D.seqs, D.tyN, startD, List.replicate, Nat.reduceSub, Nat.reduceAdd, Nat.reduceLeDiff, wipeD, unw, freeAt, Slot.free, Nat.reduceEqDiff, id_eq, eq_self, qc, ↓DL.qtd, DL.qtu, ↓DL.qfd, DL.qfu,  Tel.prD, cellD_eq, gset_free (free_pin ha), gset_free (free_pin hb), gset_free (free_pin hc)]
    refine br_dec (fun hb2 => ?_) (fun hb2 => ?_)
    · simp -dsimp only [↓DL.qd, DL.qu, DL.qs, ↓DL.s_seq, mkD, D.key, dgetM, hide, hideS, Slot.fr?, Slot.m?, Slot.put, D.seqs, D.tyN, startD, List.replicate, Nat.reduceSub, Nat.reduceAdd, Nat.reduceLeDiff, wipeD, unw, freeAt, Slot.free, Nat.reduceEqDiff, id_eq, eq_self, qc, ↓DL.qtd, DL.qtu, ↓DL.qfd, DL.qfu]
      exact qx fun c => absurd (c.2 i h2).1 (by omega)
    simp -dsimp only [↓DL.qd, DL.qu, DL.qs, ↓DL.s_seq, mkD, D.key, dgetM, hide, hideS, Slot.fr?, Slot.m?, Slot.put, D.seqs, D.tyN, startD, List.replicate, Nat.reduceSub, Nat.reduceAdd, Nat.reduceLeDiff, wipeD, unw, freeAt, Slot.free, Nat.reduceEqDiff, id_eq, eq_self, qc, ↓DL.qtd, DL.qtu, ↓DL.qfd, DL.qfu]
    refine br_dec (fun hb3 => ?_) (fun hb3 => ?_)
    · simp -dsimp only [↓DL.qd, DL.qu, DL.qs, ↓DL.s_seq, mkD, D.key, dgetM, hide, hideS, Slot.fr?, Slot.m?, Slot.put, D.seqs, D.tyN, startD, List.replicate, Nat.reduceSub, Nat.reduceAdd, Nat.reduceLeDiff, wipeD, unw, freeAt, Slot.free, Nat.reduceEqDiff, id_eq, eq_self, qc, ↓DL.qtd, DL.qtu, ↓DL.qfd, DL.qfu]
      exact qx fun c => absurd (c.2 i h2).2 (by omega)
    simp -dsimp only [↓DL.qd, DL.qu, DL.qs, ↓DL.s_seq, mkD, D.key, dgetM, hide, hideS, Slot.fr?, Slot.m?, Slot.put, D.seqs, D.tyN, startD, List.replicate, Nat.reduceSub, Nat.reduceAdd, Nat.reduceLeDiff, wipeD, unw, freeAt, Slot.free, Nat.reduceEqDiff, id_eq, eq_self, qc, ↓DL.qtd, DL.qtu, ↓DL.qfd, DL.qfu]
    refine hN _ ⟨_, _, _, rfl, rfl, rfl, rfl, fun j hj => ?_⟩
    by_cases e : j = i
    · subst e; omega
    · exact hall j (by omega)
  rintro s ⟨a, b, c, rfl, ha, hb, hc, hall⟩
  simp -dsimp only [↓DL.qd, DL.qu, DL.qs, ↓DL.s_seq, mkD, D.key, dgetM, hide, hideS, Slot.fr?, Slot.m?, Slot.put, D.seqs, D.tyN, startD, List.replicate, Nat.reduceSub, Nat.reduceAdd, Nat.reduceLeDiff, wipeD, unw, freeAt, Slot.free, Nat.reduceEqDiff, id_eq, eq_self, qc, ↓DL.qtd, DL.qtu, ↓DL.qfd, DL.qfu]
  refine q ⟨hSl, fun i hi => hall i ?_⟩
  simp [Mach.sz] at hSl hi ⊢
  omega
def c__guard_holds (C_Machine : Addr) : CT
  | [.fz m, .fz x, .fz (.int k)], R, _ => ∃ (M : Mach) (xs : List Int) (i : Nat), m = machD C_Machine M ∧ x = tupI xs ∧ k = (i : Int) ∧ i < M.ds.length ∧ M.wf ∧ dk M.sz xs ∧ R (.fz (.bl (can (dd M.ds i) xs))) []
  | _, _, _ => False
theorem sc__guard_holds : FnScope N__guard_holds ["machine", "disk", "deed"] (defScope s__guard_holds) := ⟨rfl, rfl, rfl, by decide +kernel, rfl, by decide +kernel, by decide +kernel⟩
theorem ok__guard_holds (T : Txt K mg P w C_WreckError C_InvalidMachine C_InvalidDisk C_InvalidSketch C_NoSuchDeed C_CannotDo C_InvalidForm C_InvalidFile C_NoRoom C_Machine C_StripeForm) (F : TopFn K mg "_guard_holds" s__guard_holds ["machine", "disk", "deed"]) : FnAt P w K mg base TB 1 "_guard_holds" ["machine", "disk", "deed"] false (c__guard_holds C_Machine) := by
  have nd := sc__guard_holds.nd
  refine fnAt F sc__guard_holds (fun ms R X h => by unfold c__guard_holds at h; split at h <;> first | rfl | exact h.elim) (fun h => by cases h) fun f cdv A outer s H E x0 Xd hr => ?_
  refine ⟨_, _, (dss_one (ds_ret (de_callB (call_allA rfl rfl) cd_all (by rfl) T.n_all bo_all (da_cons (de_lc (own := [("cell", 3), ("mask", 4)]) rfl nd (di_any rfl (de_ix rfl (hu1 hr) (de_ix rfl (hu1 hr) (de_attr (f := "deeds") (fun C => C = C_Machine) rfl T.at_deeds (dv 0)) (dv 2)) de_int)) (blkOk_by (N := N__guard_holds) (sc := defScope s__guard_holds) (by decide +kernel)) (GOnly.tup (GOnlys.cons GMono.name (GMonos.cons GMono.name GMonos.nil) (GOnly.name (by decide)) (GOnlys.cons GMono.name GMonos.nil (GOnly.name (by decide)) GOnlys.nil))) (GMono.tup (GMonos.cons GMono.name (GMonos.cons GMono.name GMonos.nil))) (fun _ _ _ _ _ => (dg_tup (n := 2) rfl rfl (dgs_cons (dg_name (i := 3) nd rfl (by first | exact Or.inl rfl | exact Or.inr rfl)) (dgs_cons (dg_name (i := 4) nd rfl (by first | exact Or.inl rfl | exact Or.inr rfl)) dgs_nil)))) (fun _ _ _ _ _ => dts_nil) (fun _ _ _ _ _ => (de_cmp (op_eqA rfl (hu64 hr)) od_eq (de_op op_and od_and (de_op op_shr od_shr (dv 4) (de_ix rfl (hu1 hr) (dv 1) (dv 3))) de_int) de_int (nomark _)))) da_nil)))), ?_⟩
  intro ms Rd h
  unfold c__guard_holds at h
  split at h <;> first | exact (show False from h).elim | skip
  rename_i m x k
  obtain ⟨M, xs, i, rfl, rfl, rfl, hi, W, hx, q⟩ := h
  have hd := dd_get hi
  have hw := W.ds _ (List.mem_of_getElem? hd)
  have hz := W.sz
  have h24 := hz.1
  have hat : atI (M.ds.map deedD) (i : Int) = some (deedD (dd M.ds i)) := DL.atI_nat (by rw [List.getElem?_map, hd]; rfl)
  have hgl := gd_len hw hz
  unfold machD tupI
  simp -dsimp only [↓DL.qd, DL.qu, DL.qs, ↓DL.s_seq, mkD, D.key, dgetM, hide, hideS, Slot.fr?, Slot.m?, Slot.put, D.seqs, D.tyN, startD, List.replicate, Nat.reduceSub, Nat.reduceAdd, Nat.reduceLeDiff, wipeD, unw, freeAt, Slot.free, Nat.reduceEqDiff, id_eq, eq_self, qc, ↓DL.qtd, DL.qtu, ↓DL.qfd, DL.qfu,  hat, deedD_eq]
  refine lcR_mapE (fun s => ∃ g : DL.M, s = [.v (.fz (machD C_Machine M)), .v g, .v (.fz (.int (i : Int))), .un, .un] ∧ g.frz = .tup (xs.map .int)) (fun p : Nat × Int => .bl (has p.2 (gi xs p.1))) (by unfold sizeLine; omega) ⟨_, rfl, rfl⟩ ?_ ?_
  · rintro ⟨c, mm⟩ hp s ⟨g, rfl, hg⟩ R hR
    obtain ⟨h1, h2⟩ := hw.1.2 (c, mm) hp
    have h1 : c < M.sz.length := h1
    have hm : sm mm := mk_sm (hz.2 c h1).2 h2
    have hv : sv (gi xs c) := dk_sv hz hx h1
    have hbt := has_bt hm hv
    simp -dsimp only [↓DL.qd, DL.qu, DL.qs, ↓DL.s_seq, mkD, D.key, dgetM, hide, hideS, Slot.fr?, Slot.m?, Slot.put, D.seqs, D.tyN, startD, List.replicate, Nat.reduceSub, Nat.reduceAdd, Nat.reduceLeDiff, wipeD, unw, freeAt, Slot.free, Nat.reduceEqDiff, id_eq, eq_self, qc, ↓DL.qtd, DL.qtu, ↓DL.qfd, DL.qfu,  gdD_mk, hg, at_ints hx.1 c h1]
    refine ⟨hv.1, hR _ _ ?_ ⟨_, rfl, hg⟩⟩
    show (DL.M.fz _).frz = _
    rfl
  rintro s' ⟨g, rfl, hg⟩
  simp -dsimp only [↓DL.qd, DL.qu, DL.qs, ↓DL.s_seq, mkD, D.key, dgetM, hide, hideS, Slot.fr?, Slot.m?, Slot.put, D.seqs, D.tyN, startD, List.replicate, Nat.reduceSub, Nat.reduceAdd, Nat.reduceLeDiff, wipeD, unw, freeAt, Slot.free, Nat.reduceEqDiff, id_eq, eq_self, qc, ↓DL.qtd, DL.qtu, ↓DL.qfd, DL.qfu]
  refine wD_of (boolL_mapf _ _) ?_
  simp -dsimp only [↓DL.qd, DL.qu, DL.qs, ↓DL.s_seq, mkD, D.key, dgetM, hide, hideS, Slot.fr?, Slot.m?, Slot.put, D.seqs, D.tyN, startD, List.replicate, Nat.reduceSub, Nat.reduceAdd, Nat.reduceLeDiff, wipeD, unw, freeAt, Slot.free, Nat.reduceEqDiff, id_eq, eq_self, qc, ↓DL.qtd, DL.qtu, ↓DL.qfd, DL.qfu]
  rw [List.all_map]
  exact q
def c__changed (C_Machine : Addr) : CT
  | [.fz m, .fz x, .fz (.int k)], R, _ => ∃ (M : Mach) (xs : List Int) (i : Nat), m = machD C_Machine M ∧ x = tupI xs ∧ k = (i : Int) ∧ i < M.ds.length ∧ M.wf ∧ dk M.sz xs ∧ R (.fz (tupI (aft (dd M.ds i) xs))) []
  | _, _, _ => False
theorem sc__changed : FnScope N__changed ["machine", "disk", "deed"] (defScope s__changed) := ⟨rfl, rfl, rfl, by decide +kernel, rfl, by decide +kernel, by decide +kernel⟩
theorem ok__changed (T : Txt K mg P w C_WreckError C_InvalidMachine C_InvalidDisk C_InvalidSketch C_NoSuchDeed C_CannotDo C_InvalidForm C_InvalidFile C_NoRoom C_Machine C_StripeForm) (F : TopFn K mg "_changed" s__changed ["machine", "disk", "deed"]) : FnAt P w K mg base TB 1 "_changed" ["machine", "disk", "deed"] false (c__changed C_Machine) := by
  have nd := sc__changed.nd
  refine fnAt F sc__changed (fun ms R X h => by unfold c__changed at h; split at h <;> first | rfl | exact h.elim) (fun h => by cases h) fun f cdv A outer s H E x0 Xd hr => ?_
  refine ⟨_, _, (dss_cons (ds_set (i := 3) nd rfl (by first | exact Or.inl rfl | exact Or.inr rfl) (de_callTy (call_listA rfl) cd_list (by rfl) T.n_list bo_list (da_cons (dv 1) da_nil)))
      (dss_cons (ds_for passD rfl (di_any rfl (de_ix rfl (hu1 hr) (de_ix rfl (hu1 hr) (de_attr (f := "deeds") (fun C => C = C_Machine) rfl T.at_deeds (dv 0)) (dv 2)) de_int)) (dg_tup (n := 2) rfl rfl (dgs_cons (dg_name (i := 4) nd rfl (by first | exact Or.inl rfl | exact Or.inr rfl)) (dgs_cons (dg_tup (n := 2) rfl rfl (dgs_cons (dg_name (i := 5) nd rfl (by first | exact Or.inl rfl | exact Or.inr rfl)) (dgs_cons (dg_name (i := 6) nd rfl (by first | exact Or.inl rfl | exact Or.inr rfl)) dgs_nil))) dgs_nil)))
      (dss_one (ds_setI (i := 3) rfl (de_ife (dt_cmp (op_eqA rfl (hu64 hr)) od_eq (dv 5) de_str (nomark _)) (dv 6) (de_ix rfl (hu1 hr) (dv 1) (dv 6))) (dv 4))))
      (dss_one (ds_ret (de_callTy (call_tupleA rfl) cd_tuple (by rfl) T.n_tuple bo_tuple (da_cons (dv 3) da_nil)))))), ?_⟩
  intro ms Rd h
  unfold c__changed at h
  split at h <;> first | exact (show False from h).elim | skip
  rename_i m x k
  obtain ⟨M, xs, i, rfl, rfl, rfl, hi, W, hx, q⟩ := h
  have hd := dd_get hi
  have hw := W.ds _ (List.mem_of_getElem? hd)
  have hat : atI (M.ds.map deedD) (i : Int) = some (deedD (dd M.ds i)) := DL.atI_nat (by rw [List.getElem?_map, hd]; rfl)
  generalize dd M.ds i = d at hat hw q
  unfold machD tupI
  simp -dsimp only [↓DL.qd, DL.qu, DL.qs, ↓DL.s_seq, mkD, D.key, dgetM, hide, hideS, Slot.fr?, Slot.m?, Slot.put, D.seqs, D.tyN, startD, List.replicate, Nat.reduceSub, Nat.reduceAdd, Nat.reduceLeDiff, wipeD, unw, freeAt, Slot.free, Nat.reduceEqDiff, id_eq, eq_self, qc, ↓DL.qtd, DL.qtu, ↓DL.qfd, DL.qfu,  hat, deedD_eq]
  refine for_ofE (fun i' s => ∃ (a b e : DL.Slot) (vs : List Int), s = [.v (.fz (machD C_Machine M)), .v (.fz (.tup (xs.map .int))), .v (.fz (.int (i : Int))), .v (.ml (vs.map .int)), a, b, e] ∧ a.free = true ∧ b.free = true ∧ e.free = true ∧ vs.length = M.sz.length ∧ vs = (d.c.take i').foldl (fun vs p => vs.set p.1 (srcV xs p.2)) xs) ⟨_, _, _, xs, rfl, rfl, rfl, rfl, hx.1, rfl⟩ ?_ ?_
  · rintro i' ⟨c, sr⟩ s hp ⟨a, b, e, vs, rfl, ha, hb, he, hvl, hvs⟩ N B R hN - -
    obtain ⟨h1, h2⟩ := hw.2.2 (c, sr) (List.mem_of_getElem? hp)
    have h1 : c < M.sz.length := h1
    have hix := ixN_nat (show c < vs.length by omega)
    cases sr with
    | set v =>
      simp -dsimp only [↓DL.qd, DL.qu, DL.qs, ↓DL.s_seq, mkD, D.key, dgetM, hide, hideS, Slot.fr?, Slot.m?, Slot.put, D.seqs, D.tyN, startD, List.replicate, Nat.reduceSub, Nat.reduceAdd, Nat.reduceLeDiff, wipeD, unw, freeAt, Slot.free, Nat.reduceEqDiff, id_eq, eq_self, qc, ↓DL.qtd, DL.qtu, ↓DL.qfd, DL.qfu,  chD_set, gset_free (free_pin ha), gset_free (free_pin hb), gset_free (free_pin he), o_eqS, List.length_map, hix]
      rw [set_ints]
      refine hN _ ⟨_, _, _, _, rfl, rfl, rfl, rfl, by simpa using hvl, ?_⟩
      rw [List.take_succ, hp, List.foldl_append, ← hvs]
      rfl
    | copy n =>
      have h2 : n < M.sz.length ∧ gi M.sz n ≤ gi M.sz c := h2
      simp -dsimp only [↓DL.qd, DL.qu, DL.qs, ↓DL.s_seq, mkD, D.key, dgetM, hide, hideS, Slot.fr?, Slot.m?, Slot.put, D.seqs, D.tyN, startD, List.replicate, Nat.reduceSub, Nat.reduceAdd, Nat.reduceLeDiff, wipeD, unw, freeAt, Slot.free, Nat.reduceEqDiff, id_eq, eq_self, qc, ↓DL.qtd, DL.qtu, ↓DL.qfd, DL.qfu,  chD_copy, gset_free (free_pin ha), gset_free (free_pin hb), gset_free (free_pin he), o_eqS, ne_cs, List.length_map, hix, at_ints hx.1 n h2.1]
      rw [set_ints]
      refine hN _ ⟨_, _, _, _, rfl, rfl, rfl, rfl, by simpa using hvl, ?_⟩
      rw [List.take_succ, hp, List.foldl_append, ← hvs]
      rfl
  rintro s ⟨a, b, e, vs, rfl, ha, hb, he, hvl, hvs⟩
  rw [List.take_length] at hvs
  have : vs = aft d xs := hvs
  subst this
  simp -dsimp only [↓DL.qd, DL.qu, DL.qs, ↓DL.s_seq, mkD, D.key, dgetM, hide, hideS, Slot.fr?, Slot.m?, Slot.put, D.seqs, D.tyN, startD, List.replicate, Nat.reduceSub, Nat.reduceAdd, Nat.reduceLeDiff, wipeD, unw, freeAt, Slot.free, Nat.reduceEqDiff, id_eq, eq_self, qc, ↓DL.qtd, DL.qtu, ↓DL.qfd, DL.qfu]
  exact q
def c_can_do (C_Machine C_InvalidDisk C_NoSuchDeed : Addr) : CT
  | [.fz m, .fz x, .fz (.int k)], R, X => ∃ (M : Mach) (xs : List Int), m = machD C_Machine M ∧ x = tupI xs ∧ M.wf ∧ M.ds.length ≤ 400 ∧ (¬ dk M.sz xs → X (.ref C_InvalidDisk) none []) ∧ (dk M.sz xs → k < 0 ∨ (M.ds.length : Int) ≤ k → X (.ref C_NoSuchDeed) none []) ∧ ∀ i : Nat, dk M.sz xs → k = (i : Int) → i < M.ds.length → R (.fz (.bl (can (dd M.ds i) xs))) []
  | _, _, _ => False
theorem sc_can_do : FnScope N_can_do ["machine", "disk", "deed"] (defScope s_can_do) := ⟨rfl, rfl, rfl, by decide +kernel, rfl, by decide +kernel, by decide +kernel⟩
theorem ok_can_do (T : Txt K mg P w C_WreckError C_InvalidMachine C_InvalidDisk C_InvalidSketch C_NoSuchDeed C_CannotDo C_InvalidForm C_InvalidFile C_NoRoom C_Machine C_StripeForm) (G__guard_holds : FnAt P w K mg base TB 1 "_guard_holds" ["machine", "disk", "deed"] false (c__guard_holds C_Machine)) (G_check_deed : FnAt P w K mg base TB 1 "check_deed" ["machine", "deed"] false (c_check_deed C_Machine C_NoSuchDeed)) (G_check_disk : FnAt P w K mg base TB 1 "check_disk" ["machine", "disk"] false (c_check_disk C_Machine C_InvalidDisk)) (F : TopFn K mg "can_do" s_can_do ["machine", "disk", "deed"]) : FnAt P w K mg base TB 2 "can_do" ["machine", "disk", "deed"] false (c_can_do C_Machine C_InvalidDisk C_NoSuchDeed) := by
  have nd := sc_can_do.nd
  refine fnAt F sc_can_do (fun ms R X h => by unfold c_can_do at h; split at h <;> first | rfl | exact h.elim) (fun h => by cases h) fun f cdv A outer s H E x0 Xd hr => ?_
  refine ⟨_, _, (dss_cons (ds_expr (de_callN G_check_disk hr rfl rfl takesD (da_cons (dv 0) (da_cons (dv 1) da_nil))))
      (dss_cons (ds_expr (de_callN G_check_deed hr rfl rfl takesD (da_cons (dv 0) (da_cons (dv 2) da_nil))))
      (dss_one (ds_ret (de_callN G__guard_holds hr rfl rfl takesD (da_cons (dv 0) (da_cons (dv 1) (da_cons (dv 2) da_nil)))))))), ?_⟩
  intro ms Rd h
  unfold c_can_do at h
  split at h <;> first | exact (show False from h).elim | skip
  rename_i m x k
  obtain ⟨M, xs, rfl, rfl, W, h400, q1, q2, q3⟩ := h
  simp -dsimp only [↓DL.qd, DL.qu, DL.qs, ↓DL.s_seq, mkD, D.key, dgetM, hide, hideS, Slot.fr?, Slot.m?, Slot.put, D.seqs, D.tyN, startD, List.replicate, Nat.reduceSub, Nat.reduceAdd, Nat.reduceLeDiff, wipeD, unw, freeAt, Slot.free, Nat.reduceEqDiff, id_eq, eq_self, c__guard_holds, c_check_deed, c_check_disk, qc, ↓DL.qtd, DL.qtu, ↓DL.qfd, DL.qfu]
  refine ⟨M, xs, rfl, rfl, W.sz, fun hx => ?_, q1⟩
  try simp -dsimp only [↓DL.qd, DL.qu, DL.qs, ↓DL.s_seq, mkD, D.key, dgetM, hide, hideS, Slot.fr?, Slot.m?, Slot.put, D.seqs, D.tyN, startD, List.replicate, Nat.reduceSub, Nat.reduceAdd, Nat.reduceLeDiff, wipeD, unw, freeAt, Slot.free, Nat.reduceEqDiff, id_eq, eq_self, c__guard_holds, c_check_deed, c_check_disk, qc, ↓DL.qtd, DL.qtu, ↓DL.qfd, DL.qfu]
  refine ⟨M, rfl, h400, fun h0 h1 => ?_, fun c => q2 hx c⟩
  try simp -dsimp only [↓DL.qd, DL.qu, DL.qs, ↓DL.s_seq, mkD, D.key, dgetM, hide, hideS, Slot.fr?, Slot.m?, Slot.put, D.seqs, D.tyN, startD, List.replicate, Nat.reduceSub, Nat.reduceAdd, Nat.reduceLeDiff, wipeD, unw, freeAt, Slot.free, Nat.reduceEqDiff, id_eq, eq_self, c__guard_holds, c_check_deed, c_check_disk, qc, ↓DL.qtd, DL.qtu, ↓DL.qfd, DL.qfu]
  obtain ⟨i, rfl⟩ : ∃ i : Nat, k = (i : Int) := ⟨k.toNat, by omega⟩
  exact ⟨M, xs, i, rfl, rfl, rfl, by omega, W, hx, q3 i hx rfl (by omega)⟩
def c_after (C_Machine C_InvalidDisk C_NoSuchDeed C_CannotDo : Addr) : CT
  | [.fz m, .fz x, .fz (.int k)], R, X => ∃ (M : Mach) (xs : List Int), m = machD C_Machine M ∧ x = tupI xs ∧ M.wf ∧ M.ds.length ≤ 400 ∧ (¬ dk M.sz xs → X (.ref C_InvalidDisk) none []) ∧ (dk M.sz xs → k < 0 ∨ (M.ds.length : Int) ≤ k → X (.ref C_NoSuchDeed) none []) ∧
      ∀ i : Nat, dk M.sz xs → k = (i : Int) → i < M.ds.length → (can (dd M.ds i) xs = true → R (.fz (tupI (aft (dd M.ds i) xs))) []) ∧ (can (dd M.ds i) xs = false → X (.ref C_CannotDo) (some [("position", .int 0)]) [])
  | _, _, _ => False
theorem sc_after : FnScope N_after ["machine", "disk", "deed"] (defScope s_after) := ⟨rfl, rfl, rfl, by decide +kernel, rfl, by decide +kernel, by decide +kernel⟩
theorem ok_after (T : Txt K mg P w C_WreckError C_InvalidMachine C_InvalidDisk C_InvalidSketch C_NoSuchDeed C_CannotDo C_InvalidForm C_InvalidFile C_NoRoom C_Machine C_StripeForm) (G__changed : FnAt P w K mg base TB 1 "_changed" ["machine", "disk", "deed"] false (c__changed C_Machine)) (G_can_do : FnAt P w K mg base TB 2 "can_do" ["machine", "disk", "deed"] false (c_can_do C_Machine C_InvalidDisk C_NoSuchDeed)) (F : TopFn K mg "after" s_after ["machine", "disk", "deed"]) : FnAt P w K mg base TB 3 "after" ["machine", "disk", "deed"] false (c_after C_Machine C_InvalidDisk C_NoSuchDeed C_CannotDo) := by
  have nd := sc_after.nd
  refine fnAt F sc_after (fun ms R X h => by unfold c_after at h; split at h <;> first | rfl | exact h.elim) (fun h => by cases h) fun f cdv A outer s H E x0 Xd hr => ?_
  refine ⟨_, _, (dss_cons (ds_if (dt_not (dt_truth (de_callN G_can_do hr rfl rfl takesD (da_cons (dv 0) (da_cons (dv 1) (da_cons (dv 2) da_nil))))))
      (dss_one (ds_raiseS T.s_CannotDo hr rfl takesD rfl de_int))
      dss_nil)
      (dss_one (ds_ret (de_callN G__changed (hr.mono (by decide)) rfl rfl takesD (da_cons (dv 0) (da_cons (dv 1) (da_cons (dv 2) da_nil))))))), ?_⟩
  intro ms Rd h
  unfold c_after at h
  split at h <;> first | exact (show False from h).elim | skip
  rename_i m x k
  obtain ⟨M, xs, rfl, rfl, W, h400, q1, q2, q3⟩ := h
  simp -dsimp only [↓DL.qd, DL.qu, DL.qs, ↓DL.s_seq, mkD, D.key, dgetM, hide, hideS, Slot.fr?, Slot.m?, Slot.put, D.seqs, D.tyN, startD, List.replicate, Nat.reduceSub, Nat.reduceAdd, Nat.reduceLeDiff, wipeD, unw, freeAt, Slot.free, Nat.reduceEqDiff, id_eq, eq_self, c__changed, c_can_do, qc, ↓DL.qtd, DL.qtu, ↓DL.qfd, DL.qfu]
  refine ⟨M, xs, rfl, rfl, W, h400, q1, q2, fun i hx hk hi => ?_⟩
  subst hk
  obtain ⟨q4, q5⟩ := q3 i hx rfl hi
  try simp -dsimp only [↓DL.qd, DL.qu, DL.qs, ↓DL.s_seq, mkD, D.key, dgetM, hide, hideS, Slot.fr?, Slot.m?, Slot.put, D.seqs, D.tyN, startD, List.replicate, Nat.reduceSub, Nat.reduceAdd, Nat.reduceLeDiff, wipeD, unw, freeAt, Slot.free, Nat.reduceEqDiff, id_eq, eq_self, c__changed, c_can_do, qc, ↓DL.qtd, DL.qtu, ↓DL.qfd, DL.qfu]
  refine br_of (fun h => ?_) (fun h => ?_)
  · simp -dsimp only [↓DL.qd, DL.qu, DL.qs, ↓DL.s_seq, mkD, D.key, dgetM, hide, hideS, Slot.fr?, Slot.m?, Slot.put, D.seqs, D.tyN, startD, List.replicate, Nat.reduceSub, Nat.reduceAdd, Nat.reduceLeDiff, wipeD, unw, freeAt, Slot.free, Nat.reduceEqDiff, id_eq, eq_self, c__changed, c_can_do, qc, ↓DL.qtd, DL.qtu, ↓DL.qfd, DL.qfu]
    exact ⟨supFit_of (by decide) (by decide), q5 (by simpa using h)⟩
  · simp -dsimp only [↓DL.qd, DL.qu, DL.qs, ↓DL.s_seq, mkD, D.key, dgetM, hide, hideS, Slot.fr?, Slot.m?, Slot.put, D.seqs, D.tyN, startD, List.replicate, Nat.reduceSub, Nat.reduceAdd, Nat.reduceLeDiff, wipeD, unw, freeAt, Slot.free, Nat.reduceEqDiff, id_eq, eq_self, c__changed, c_can_do, qc, ↓DL.qtd, DL.qtu, ↓DL.qfd, DL.qfu]
    exact ⟨M, xs, i, rfl, rfl, rfl, hi, W, hx, q4 (by simpa using h)⟩
end
end K45
namespace K45
open PySem PySem.Spec L2 DL Msk Tel
section
variable {P : Program} {w : World} {K : PySem.W.Frag} {mg : Str → Option Value} {base : Heap} {TB : List (Addr × Str)} {C_WreckError C_InvalidMachine C_InvalidDisk C_InvalidSketch C_NoSuchDeed C_CannotDo C_InvalidForm C_InvalidFile C_NoRoom C_Machine C_StripeForm : Addr}
def c__law_cell : CT
  | [.fz (.scr _), .fz (.int k)], R, _ => 0 ≤ k ∧ ∀ v : Int, R (.fz (.int v)) []
  | _, _, _ => False
theorem sc__law_cell : FnScope N__law_cell ["script", "k"] (defScope s__law_cell) := ⟨rfl, rfl, rfl, by decide +kernel, rfl, by decide +kernel, by decide +kernel⟩
theorem ok__law_cell (T : Txt K mg P w C_WreckError C_InvalidMachine C_InvalidDisk C_InvalidSketch C_NoSuchDeed C_CannotDo C_InvalidForm C_InvalidFile C_NoRoom C_Machine C_StripeForm) (F : TopFn K mg "_law_cell" s__law_cell ["script", "k"]) : FnAt P w K mg base TB 1 "_law_cell" ["script", "k"] false c__law_cell := by
  have nd := sc__law_cell.nd
  refine fnAt F sc__law_cell (fun ms R X h => by unfold c__law_cell at h; split at h <;> first | rfl | exact h.elim) (fun h => by cases h) fun f cdv A outer s H E x0 Xd hr => ?_
  refine ⟨_, _, (dss_cons (ds_if (dt_cmp op_lt od_lt (dv 1) (de_callB (call_lenA rfl) cd_len (by rfl) T.n_len bo_len (da_cons (dv 0) da_nil)) (nomark _))
      (dss_one (ds_ret (de_callTy call_intA cd_int (by rfl) T.n_int bo_int (da_cons (de_ix rfl (hu1 hr) (dv 0) (dv 1)) da_nil))))
      dss_nil)
      (dss_one (ds_ret de_int))), ?_⟩
  intro ms Rd h
  unfold c__law_cell at h
  split at h <;> first | exact (show False from h).elim | skip
  rename_i ns k
  obtain ⟨h0, q⟩ := h
  simp -dsimp only [↓DL.qd, DL.qu, DL.qs, ↓DL.s_seq, mkD, D.key, dgetM, hide, hideS, Slot.fr?, Slot.m?, Slot.put, D.seqs, D.tyN, startD, List.replicate, Nat.reduceSub, Nat.reduceAdd, Nat.reduceLeDiff, wipeD, unw, freeAt, Slot.free, Nat.reduceEqDiff, id_eq, eq_self, qc, ↓DL.qtd, DL.qtu, ↓DL.qfd, DL.qfu]
  refine br_dec (fun h => ?_) (fun h => ?_)
  · simp -dsimp only [↓DL.qd, DL.qu, DL.qs, ↓DL.s_seq, mkD, D.key, dgetM, hide, hideS, Slot.fr?, Slot.m?, Slot.put, D.seqs, D.tyN, startD, List.replicate, Nat.reduceSub, Nat.reduceAdd, Nat.reduceLeDiff, wipeD, unw, freeAt, Slot.free, Nat.reduceEqDiff, id_eq, eq_self, qc, ↓DL.qtd, DL.qtu, ↓DL.qfd, DL.qfu]
    refine wD_of (atI_pos 0 h0 h) ?_
    simp -dsimp only [↓DL.qd, DL.qu, DL.qs, ↓DL.s_seq, mkD, D.key, dgetM, hide, hideS, Slot.fr?, Slot.m?, Slot.put, D.seqs, D.tyN, startD, List.replicate, Nat.reduceSub, Nat.reduceAdd, Nat.reduceLeDiff, wipeD, unw, freeAt, Slot.free, Nat.reduceEqDiff, id_eq, eq_self, qc, ↓DL.qtd, DL.qtu, ↓DL.qfd, DL.qfu]
    exact q _
  · simp -dsimp only [↓DL.qd, DL.qu, DL.qs, ↓DL.s_seq, mkD, D.key, dgetM, hide, hideS, Slot.fr?, Slot.m?, Slot.put, D.seqs, D.tyN, startD, List.replicate, Nat.reduceSub, Nat.reduceAdd, Nat.reduceLeDiff, wipeD, unw, freeAt, Slot.free, Nat.reduceEqDiff, id_eq, eq_self, qc, ↓DL.qtd, DL.qtu, ↓DL.qfd, DL.qfu]
    exact q _
def c__law_mix : CT
  | [.fz (.int _), .fz (.int _)], R, _ => ∀ v : Int, 0 ≤ v → R (.fz (.int v)) []
  | _, _, _ => False
theorem sc__law_mix : FnScope N__law_mix ["cell", "k"] (defScope s__law_mix) := ⟨rfl, rfl, rfl, by decide +kernel, rfl, by decide +kernel, by decide +kernel⟩
theorem ok__law_mix (T : Txt K mg P w C_WreckError C_InvalidMachine C_InvalidDisk C_InvalidSketch C_NoSuchDeed C_CannotDo C_InvalidForm C_InvalidFile C_NoRoom C_Machine C_StripeForm) (F : TopFn K mg "_law_mix" s__law_mix ["cell", "k"]) : FnAt P w K mg base TB 1 "_law_mix" ["cell", "k"] false c__law_mix := by
  have nd := sc__law_mix.nd
  refine fnAt F sc__law_mix (fun ms R X h => by unfold c__law_mix at h; split at h <;> first | rfl | exact h.elim) (fun h => by cases h) fun f cdv A outer s H E x0 Xd hr => ?_
  refine ⟨_, _, (dss_cons (ds_set (i := 2) nd rfl (by first | exact Or.inl rfl | exact Or.inr rfl) (de_op op_modN od_mod (de_callTy call_intA cd_int (by rfl) T.n_int bo_int (da_cons (de_op (op_addA rfl) od_add (de_op (op_addA rfl) od_add (de_op (op_mulA rfl) od_mul (dv 0) de_int) (de_op (op_mulA rfl) od_mul (dv 1) de_int)) de_int) da_nil)) de_int))
      (dss_cons (ds_set (i := 2) nd rfl (by first | exact Or.inl rfl | exact Or.inr rfl) (de_op op_modN od_mod (de_callTy call_intA cd_int (by rfl) T.n_int bo_int (da_cons (de_op (op_addA rfl) od_add (de_op (op_addA rfl) od_add (de_op (op_mulA rfl) od_mul (dv 2) de_int) (de_op (op_mulA rfl) od_mul (dv 1) de_int)) de_int) da_nil)) de_int))
      (dss_one (ds_ret (de_op op_fdivA od_fdiv (dv 2) de_int))))), ?_⟩
  intro ms Rd h
  unfold c__law_mix at h
  split at h <;> first | exact (show False from h).elim | skip
  rename_i c k
  simp -dsimp only [↓DL.qd, DL.qu, DL.qs, ↓DL.s_seq, mkD, D.key, dgetM, hide, hideS, Slot.fr?, Slot.m?, Slot.put, D.seqs, D.tyN, startD, List.replicate, Nat.reduceSub, Nat.reduceAdd, Nat.reduceLeDiff, wipeD, unw, freeAt, Slot.free, Nat.reduceEqDiff, id_eq, eq_self, qc, ↓DL.qtd, DL.qtu, ↓DL.qfd, DL.qfu]
  refine ⟨cmul_r (by decide) (by decide), cmul_r (by decide) (by decide), by decide, cmul_r (by decide) (by decide), cmul_r (by decide) (by decide), by decide, cfd_r (by decide) (by decide), h _ ?_⟩
  exact Int.fdiv_nonneg (fmod_nn (by decide)) (by decide)
end
end K45
namespace K45
open PySem PySem.Spec L2 DL Msk Tel
section
variable {P : Program} {w : World} {K : PySem.W.Frag} {mg : Str → Option Value} {base : Heap} {TB : List (Addr × Str)} {C_WreckError C_InvalidMachine C_InvalidDisk C_InvalidSketch C_NoSuchDeed C_CannotDo C_InvalidForm C_InvalidFile C_NoRoom C_Machine C_StripeForm : Addr}
theorem lg : ∀ k : _root_.Fin 8, ((k.val : Nat) : Int).natAbs.log2 < 1920 := by decide +kernel
theorem nb_len : ∀ i j : _root_.Fin 8, (Str.empty ++ Str.ofString "b").length ≤ sizeLine ∧ (Str.empty ++ Str.ofString "b" ++ Str.ofString (toString (i.val : Int))).length ≤ sizeLine ∧ (Str.empty ++ Str.ofString "b" ++ Str.ofString (toString (i.val : Int)) ++ Str.ofString (toString (j.val : Int))).length ≤ sizeLine := by decide +kernel
theorem ne_len : ∀ i j : _root_.Fin 8, (Str.empty ++ Str.ofString "e").length ≤ sizeLine ∧ (Str.empty ++ Str.ofString "e" ++ Str.ofString (toString (i.val : Int))).length ≤ sizeLine ∧ (Str.empty ++ Str.ofString "e" ++ Str.ofString (toString (i.val : Int)) ++ Str.ofString (toString (j.val : Int))).length ≤ sizeLine := by decide +kernel
theorem mapS {α : Type} {F : List α} {g : Nat → α} {h : α → D} {j : Nat} : (F ++ (List.range (j + 1)).map g).map h = (F ++ (List.range j).map g).map h ++ [h (g j)] := by
  rw [List.range_succ]
  simp
theorem flatS {α : Type} {g : Nat → List α} {i : Nat} : (List.range (i + 1)).flatMap g = (List.range i).flatMap g ++ g i := by
  rw [List.range_succ, List.flatMap_append]
  simp
theorem flat_len {α : Type} {g : Nat → Nat → α} {v : Nat} : ∀ i, ((List.range i).flatMap fun n => (List.range v).map (g n)).length = i * v
  | 0 => by simp
  | i + 1 => by
    rw [flatS, List.length_append, flat_len i, List.length_map, List.length_range, Nat.add_mul, Nat.one_mul]
theorem nr_len : ∀ i j k : _root_.Fin 6, (Str.empty ++ Str.ofString "r").length ≤ sizeLine ∧ (Str.empty ++ Str.ofString "r" ++ Str.ofString (toString (i.val : Int))).length ≤ sizeLine ∧ (Str.empty ++ Str.ofString "r" ++ Str.ofString (toString (i.val : Int)) ++ Str.ofString (toString (j.val : Int))).length ≤ sizeLine ∧ (Str.empty ++ Str.ofString "r" ++ Str.ofString (toString (i.val : Int)) ++ Str.ofString (toString (j.val : Int)) ++ Str.ofString (toString (k.val : Int))).length ≤ sizeLine := by decide +kernel
def c_check_range (C_InvalidForm : Addr) : CT
  | [.fz (.int n), .fz (.int a), .fz (.int b)], R, X => (a ≤ n ∧ n ≤ b → R (.fz .non) []) ∧ (n < a ∨ b < n → X (.ref C_InvalidForm) none [])
  | _, _, _ => False
theorem sc_check_range : FnScope N_check_range ["number", "least", "greatest"] (defScope s_check_range) := ⟨rfl, rfl, rfl, by decide +kernel, rfl, by decide +kernel, by decide +kernel⟩
theorem ok_check_range (T : Txt K mg P w C_WreckError C_InvalidMachine C_InvalidDisk C_InvalidSketch C_NoSuchDeed C_CannotDo C_InvalidForm C_InvalidFile C_NoRoom C_Machine C_StripeForm) (F : TopFn K mg "check_range" s_check_range ["number", "least", "greatest"]) : FnAt P w K mg base TB 1 "check_range" ["number", "least", "greatest"] false (c_check_range C_InvalidForm) := by
  have nd := sc_check_range.nd
  refine fnAt F sc_check_range (fun ms R X h => by unfold c_check_range at h; split at h <;> first | rfl | exact h.elim) (fun h => by cases h) fun f cdv A outer s H E x0 Xd hr => ?_
  refine ⟨_, _, (dss_one (ds_if (DW.pt (dw_or (dt_cmp op_lt od_lt (dv 0) (dv 1) (nomark _)) (dw_or1 (dt_cmp op_gt od_gt (dv 0) (dv 2) (nomark _)))))
      (dss_one (ds_raiseC T.x_InvalidForm rfl takesD rfl))
      dss_nil)), ?_⟩
  intro ms Rd h
  unfold c_check_range at h
  split at h <;> first | exact (show False from h).elim | skip
  rename_i n a b
  obtain ⟨q1, q2⟩ := h
  simp -dsimp only [↓DL.qd, DL.qu, DL.qs, ↓DL.s_seq, mkD, D.key, dgetM, hide, hideS, Slot.fr?, Slot.m?, Slot.put, D.seqs, D.tyN, startD, List.replicate, Nat.reduceSub, Nat.reduceAdd, Nat.reduceLeDiff, wipeD, unw, freeAt, Slot.free, Nat.reduceEqDiff, id_eq, eq_self, qc, ↓DL.qtd, DL.qtu, ↓DL.qfd, DL.qfu]
  refine br_dec (fun c => ?_) (fun c => ?_)
  · simp -dsimp only [↓DL.qd, DL.qu, DL.qs, ↓DL.s_seq, mkD, D.key, dgetM, hide, hideS, Slot.fr?, Slot.m?, Slot.put, D.seqs, D.tyN, startD, List.replicate, Nat.reduceSub, Nat.reduceAdd, Nat.reduceLeDiff, wipeD, unw, freeAt, Slot.free, Nat.reduceEqDiff, id_eq, eq_self, qc, ↓DL.qtd, DL.qtu, ↓DL.qfd, DL.qfu]
    exact q2 (.inl c)
  simp -dsimp only [↓DL.qd, DL.qu, DL.qs, ↓DL.s_seq, mkD, D.key, dgetM, hide, hideS, Slot.fr?, Slot.m?, Slot.put, D.seqs, D.tyN, startD, List.replicate, Nat.reduceSub, Nat.reduceAdd, Nat.reduceLeDiff, wipeD, unw, freeAt, Slot.free, Nat.reduceEqDiff, id_eq, eq_self, qc, ↓DL.qtd, DL.qtu, ↓DL.qfd, DL.qfu]
  refine br_dec (fun c2 => ?_) (fun c2 => ?_)
  · simp -dsimp only [↓DL.qd, DL.qu, DL.qs, ↓DL.s_seq, mkD, D.key, dgetM, hide, hideS, Slot.fr?, Slot.m?, Slot.put, D.seqs, D.tyN, startD, List.replicate, Nat.reduceSub, Nat.reduceAdd, Nat.reduceLeDiff, wipeD, unw, freeAt, Slot.free, Nat.reduceEqDiff, id_eq, eq_self, qc, ↓DL.qtd, DL.qtu, ↓DL.qfd, DL.qfu]
    exact q2 (.inr (by omega))
  simp -dsimp only [↓DL.qd, DL.qu, DL.qs, ↓DL.s_seq, mkD, D.key, dgetM, hide, hideS, Slot.fr?, Slot.m?, Slot.put, D.seqs, D.tyN, startD, List.replicate, Nat.reduceSub, Nat.reduceAdd, Nat.reduceLeDiff, wipeD, unw, freeAt, Slot.free, Nat.reduceEqDiff, id_eq, eq_self, qc, ↓DL.qtd, DL.qtu, ↓DL.qfd, DL.qfu]
  exact q1 ⟨by omega, by omega⟩
def c_one : CT
  | [.fz (.int n)], R, _ => ∃ k : Nat, n = (k : Int) ∧ k ≤ 100 ∧ R (.fz (.int (1 * 2 ^ k))) []
  | _, _, _ => False
theorem sc_one : FnScope N_one ["value"] (defScope s_one) := ⟨rfl, rfl, rfl, by decide +kernel, rfl, by decide +kernel, by decide +kernel⟩
theorem ok_one (T : Txt K mg P w C_WreckError C_InvalidMachine C_InvalidDisk C_InvalidSketch C_NoSuchDeed C_CannotDo C_InvalidForm C_InvalidFile C_NoRoom C_Machine C_StripeForm) (F : TopFn K mg "one" s_one ["value"]) : FnAt P w K mg base TB 1 "one" ["value"] false c_one := by
  have nd := sc_one.nd
  refine fnAt F sc_one (fun ms R X h => by unfold c_one at h; split at h <;> first | rfl | exact h.elim) (fun h => by cases h) fun f cdv A outer s H E x0 Xd hr => ?_
  refine ⟨_, _, (dss_one (ds_ret (de_op op_shl od_shl de_int (dv 0)))), ?_⟩
  intro ms Rd h
  unfold c_one at h
  split at h <;> first | exact (show False from h).elim | skip
  rename_i n
  obtain ⟨k, rfl, hk, q⟩ := h
  simp -dsimp only [↓DL.qd, DL.qu, DL.qs, ↓DL.s_seq, mkD, D.key, dgetM, hide, hideS, Slot.fr?, Slot.m?, Slot.put, D.seqs, D.tyN, startD, List.replicate, Nat.reduceSub, Nat.reduceAdd, Nat.reduceLeDiff, wipeD, unw, freeAt, Slot.free, Nat.reduceEqDiff, id_eq, eq_self, qc, ↓DL.qtd, DL.qtu, ↓DL.qfd, DL.qfu]
  exact ⟨⟨by omega, by omega, by decide⟩, q⟩
def c_set_to : CT
  | [.fz (.int n), .fz (.int x)], R, _ => R (.fz (.tup [.int n, .tup [.str "set", .int x]])) []
  | _, _, _ => False
theorem sc_set_to : FnScope N_set_to ["cell", "value"] (defScope s_set_to) := ⟨rfl, rfl, rfl, by decide +kernel, rfl, by decide +kernel, by decide +kernel⟩
theorem ok_set_to (T : Txt K mg P w C_WreckError C_InvalidMachine C_InvalidDisk C_InvalidSketch C_NoSuchDeed C_CannotDo C_InvalidForm C_InvalidFile C_NoRoom C_Machine C_StripeForm) (F : TopFn K mg "set_to" s_set_to ["cell", "value"]) : FnAt P w K mg base TB 1 "set_to" ["cell", "value"] false c_set_to := by
  have nd := sc_set_to.nd
  refine fnAt F sc_set_to (fun ms R X h => by unfold c_set_to at h; split at h <;> first | rfl | exact h.elim) (fun h => by cases h) fun f cdv A outer s H E x0 Xd hr => ?_
  refine ⟨_, _, (dss_one (ds_ret (de_tup (da_cons (dv 0) (da_cons (de_tup (da_cons de_str (da_cons (dv 1) da_nil))) da_nil))))), ?_⟩
  intro ms Rd h
  unfold c_set_to at h
  split at h <;> first | exact (show False from h).elim | skip
  rename_i n x
  simp -dsimp only [↓DL.qd, DL.qu, DL.qs, ↓DL.s_seq, mkD, D.key, dgetM, hide, hideS, Slot.fr?, Slot.m?, Slot.put, D.seqs, D.tyN, startD, List.replicate, Nat.reduceSub, Nat.reduceAdd, Nat.reduceLeDiff, wipeD, unw, freeAt, Slot.free, Nat.reduceEqDiff, id_eq, eq_self, qc, ↓DL.qtd, DL.qtu, ↓DL.qfd, DL.qfu]
  exact ⟨by decide, by decide, h⟩
def formM (C : Addr) (v : Nat) : DL.M := .mo C (.cons "alphabet" (.fz (.int (v : Int))) .nil)
def formD (C : Addr) (v : Nat) : D := .obj C [("alphabet", .int (v : Int))]
theorem form_frz {C : Addr} {v : Nat} : (formM C v).frz = formD C v := rfl
def c_StripeForm_init (C_InvalidForm C_StripeForm : Addr) : CT
  | [.mo C .nil, .fz (.int n)], R, X => C = C_StripeForm ∧ (∀ v : Nat, n = (v : Int) → 2 ≤ v → v ≤ 5 → R (.fz .non) [formM C_StripeForm v]) ∧ (n < 2 ∨ 5 < n → X (.ref C_InvalidForm) none [.mo C .nil])
  | _, _, _ => False
theorem sc_StripeForm_init : FnScope N_StripeForm_init ["self", "alphabet"] (defScope s_StripeForm_init) := ⟨rfl, rfl, rfl, by decide +kernel, rfl, by decide +kernel, by decide +kernel⟩
theorem ok_StripeForm_init {f_StripeForm_init : Addr} (T : Txt K mg P w C_WreckError C_InvalidMachine C_InvalidDisk C_InvalidSketch C_NoSuchDeed C_CannotDo C_InvalidForm C_InvalidFile C_NoRoom C_Machine C_StripeForm) (G_check_range : FnAt P w K mg base TB 1 "check_range" ["number", "least", "greatest"] false (c_check_range C_InvalidForm)) (hm : Mk K C_StripeForm f_StripeForm_init) (F : TopMt K "__init__" "StripeForm.__init__" s_StripeForm_init ["self", "alphabet"] f_StripeForm_init) : InAt P w K mg base TB 2 "StripeForm" C_StripeForm ["self", "alphabet"] (c_StripeForm_init C_InvalidForm C_StripeForm) := by
  have nd := sc_StripeForm_init.nd
  refine mtAtI T.mg_StripeForm hm F sc_StripeForm_init (fun ms R X h => by unfold c_StripeForm_init at h; split at h <;> first | rfl | exact h.elim) (fun _ => by decide) fun f cdv A outer s H E x0 Xd hr => ?_
  refine ⟨_, _, (dss_cons (ds_expr (de_callN G_check_range hr rfl rfl takesD (da_cons (dv 1) (da_cons de_int (da_cons de_int da_nil)))))
      (dss_one (ds_setA (i := 0) (f := "alphabet") (fun C => C = C_StripeForm) rfl T.at_alphabet rfl (dv 1)))), ?_⟩
  intro ms Rd h
  unfold c_StripeForm_init at h
  split at h <;> first | exact (show False from h).elim | skip
  rename_i C n
  obtain ⟨rfl, q1, q2⟩ := h
  simp -dsimp only [↓DL.qd, DL.qu, DL.qs, ↓DL.s_seq, mkD, D.key, dgetM, hide, hideS, Slot.fr?, Slot.m?, Slot.put, D.seqs, D.tyN, startD, List.replicate, Nat.reduceSub, Nat.reduceAdd, Nat.reduceLeDiff, wipeD, unw, freeAt, Slot.free, Nat.reduceEqDiff, id_eq, eq_self, c_check_range, qc, ↓DL.qtd, DL.qtu, ↓DL.qfd, DL.qfu]
  refine ⟨fun c1 => ?_, q2⟩
  obtain ⟨v, rfl⟩ : ∃ v : Nat, n = (v : Int) := ⟨n.toNat, by omega⟩
  exact ⟨by decide, q1 v rfl (by omega) (by omega)⟩
def c__begin_deeds (C_StripeForm : Addr) : CT
  | [.fz f], R, _ => ∃ v : Nat, f = formD C_StripeForm v ∧ (2 ≤ v ∧ v ≤ 5) ∧ ∀ m : DL.M, m.frz = .lst ((bDs v).map deedD) → R m []
  | _, _, _ => False
theorem sc__begin_deeds : FnScope N__begin_deeds ["form"] (defScope s__begin_deeds) := ⟨rfl, rfl, rfl, by decide +kernel, rfl, by decide +kernel, by decide +kernel⟩
theorem ok__begin_deeds (T : Txt K mg P w C_WreckError C_InvalidMachine C_InvalidDisk C_InvalidSketch C_NoSuchDeed C_CannotDo C_InvalidForm C_InvalidFile C_NoRoom C_Machine C_StripeForm) (G_one : FnAt P w K mg base TB 1 "one" ["value"] false c_one) (G_set_to : FnAt P w K mg base TB 1 "set_to" ["cell", "value"] false c_set_to) (F : TopFn K mg "_begin_deeds" s__begin_deeds ["form"]) : FnAt P w K mg base TB 2 "_begin_deeds" ["form"] false (c__begin_deeds C_StripeForm) := by
  have nd := sc__begin_deeds.nd
  refine fnAt F sc__begin_deeds (fun ms R X h => by unfold c__begin_deeds at h; split at h <;> first | rfl | exact h.elim) (fun h => by cases h) fun f cdv A outer s H E x0 Xd hr => ?_
  refine ⟨_, _, (dss_cons (ds_set (i := 1) nd rfl (by first | exact Or.inl rfl | exact Or.inr rfl) (de_lst da_nil))
      (dss_cons (ds_for passD rfl (di_rng1 (by rfl) T.n_range (da_cons de_int da_nil)) (dg_name (i := 2) nd rfl (by first | exact Or.inl rfl | exact Or.inr rfl))
      (dss_one (ds_for passD rfl (di_rng1 (by rfl) T.n_range (da_cons (de_attr (f := "alphabet") (fun C => C = C_StripeForm) rfl T.at_alphabet (dv 0)) da_nil)) (dg_name (i := 3) nd rfl (by first | exact Or.inl rfl | exact Or.inr rfl))
      (dss_cons (ds_set (i := 4) nd rfl (by first | exact Or.inl rfl | exact Or.inr rfl) (de_tup (da_cons (de_callN G_set_to hr rfl rfl takesD (da_cons (dv 2) (da_cons (dv 3) da_nil))) (da_cons (de_callN G_set_to hr rfl rfl takesD (da_cons (de_gint T.c_WORK) (da_cons (de_op (op_addA rfl) od_add de_int (dv 2)) da_nil))) da_nil))))
      (dss_one (ds_expr (de_append (i := 1) rfl (da_cons (de_tup (da_cons (de_joined (DJs.cons de_str (DJs.cons (de_fmt (dv 2)) (DJs.cons (de_fmt (dv 3)) DJs.nil)))) (da_cons (de_tup (da_cons (de_tup (da_cons (de_gint T.c_WORK) (da_cons (de_callN G_one hr rfl rfl takesD (da_cons (de_gint T.c_NO_WORK) da_nil)) da_nil))) da_nil)) (da_cons (dv 4) da_nil)))) da_nil))))))))
      (dss_one (ds_ret (dv 1))))), ?_⟩
  intro ms Rd h
  unfold c__begin_deeds at h
  split at h <;> first | exact (show False from h).elim | skip
  rename_i f
  obtain ⟨v, rfl, hv, q⟩ := h
  have v3 : 2 ≤ v ∧ v ≤ 5 := by omega
  have eF : formD C_StripeForm v = .obj C_StripeForm [("alphabet", .int (v : Int))] := rfl
  simp -dsimp only [↓DL.qd, DL.qu, DL.qs, ↓DL.s_seq, mkD, D.key, dgetM, hide, hideS, Slot.fr?, Slot.m?, Slot.put, D.seqs, D.tyN, startD, List.replicate, Nat.reduceSub, Nat.reduceAdd, Nat.reduceLeDiff, wipeD, unw, freeAt, Slot.free, Nat.reduceEqDiff, id_eq, eq_self, c_one, c_set_to, qc, ↓DL.qtd, DL.qtu, ↓DL.qfd, DL.qfu]
  refine ⟨by decide, by decide, by decide, for_rng (fun i s => ∃ a b c : DL.Slot, s = [.v (.fz (formD C_StripeForm v)), .v (.ml (((List.range i).flatMap fun n => (List.range v).map fun x => bDeed n x).map deedD)), a, b, c] ∧ a.free = true ∧ b.free = true ∧ c.free = true) ⟨.un, .un, .un, rfl, rfl, rfl, rfl⟩ ?_ ?_⟩
  · rintro i s hi ⟨a, b, c, rfl, ha, hb, hc⟩ N B R hN - -
    have hi : i < 2 := by omega
    rw [Int.zero_add]
    have hl : ((List.range i).flatMap fun n => (List.range v).map fun x => bDeed n x).length ≤ 100 := by
      rw [flat_len]
      exact Nat.le_trans (Nat.mul_le_mul (show i ≤ 5 by omega) v3.2) (by decide)
    obtain ⟨F, hF⟩ : ∃ F, F = ((List.range i).flatMap fun n => (List.range v).map fun x => bDeed n x) := ⟨_, rfl⟩
    rw [← hF] at hl ⊢
    simp -dsimp only [↓DL.qd, DL.qu, DL.qs, ↓DL.s_seq, mkD, D.key, dgetM, hide, hideS, Slot.fr?, Slot.m?, Slot.put, D.seqs, D.tyN, startD, List.replicate, Nat.reduceSub, Nat.reduceAdd, Nat.reduceLeDiff, wipeD, unw, freeAt, Slot.free, Nat.reduceEqDiff, id_eq, eq_self, c_one, c_set_to, qc, ↓DL.qtd, DL.qtu, ↓DL.qfd, DL.qfu,  gset_free (free_pin ha), eF]
    rw [Int.toNat_natCast]
    refine ⟨by omega, by omega, for_rng (fun j s => ∃ b c : DL.Slot, s = [.v (.fz (formD C_StripeForm v)), .v (.ml ((F ++ (List.range j).map fun x => bDeed i x).map deedD)), .v (.fz (.int (i : Int))), b, c] ∧ b.free = true ∧ c.free = true) ⟨b, c, by simp; rfl, hb, hc⟩ ?_ ?_⟩
    · clear hb hc
      rintro j s hj ⟨b, c, rfl, hb, hc⟩ N2 B R hN2 - -
      rw [Int.zero_add]
      have g1 := lg ⟨i, by omega⟩
      have g2 := lg ⟨j, by omega⟩
      have n1 := nb_len ⟨i, by omega⟩ ⟨j, by omega⟩
      simp only at g1 g2 n1
      simp -dsimp only [↓DL.qd, DL.qu, DL.qs, ↓DL.s_seq, mkD, D.key, dgetM, hide, hideS, Slot.fr?, Slot.m?, Slot.put, D.seqs, D.tyN, startD, List.replicate, Nat.reduceSub, Nat.reduceAdd, Nat.reduceLeDiff, wipeD, unw, freeAt, Slot.free, Nat.reduceEqDiff, id_eq, eq_self, c_one, c_set_to, qc, ↓DL.qtd, DL.qtu, ↓DL.qfd, DL.qfu,  gset_free (free_pin hb), gset_free (free_pin hc)]
      refine ⟨by decide, n1.1, g1, n1.2.1, g2, n1.2.2, 0, rfl, by decide, by decide, by decide, by decide, by rw [List.length_map, List.length_append, List.length_map, List.length_range]; unfold sizeLine; omega, ?_⟩
      refine hN2 _ ⟨.v (.fz (.int (j : Int))), .v (.fz (.tup [.tup [.int (i : Int), .tup [.str "set", .int (j : Int)]], .tup [.int 3, .tup [.str "set", .int (1 + (i : Int))]]])), ?_, rfl, rfl⟩
      rw [mapS]
      rfl
    rintro s ⟨b, c, rfl, hb, hc⟩
    refine hN _ ⟨.v (.fz (.int (i : Int))), b, c, ?_, rfl, hb, hc⟩
    rw [hF, flatS]
  rintro s ⟨a, b, c, rfl, ha, hb, hc⟩
  simp -dsimp only [↓DL.qd, DL.qu, DL.qs, ↓DL.s_seq, mkD, D.key, dgetM, hide, hideS, Slot.fr?, Slot.m?, Slot.put, D.seqs, D.tyN, startD, List.replicate, Nat.reduceSub, Nat.reduceAdd, Nat.reduceLeDiff, wipeD, unw, freeAt, Slot.free, Nat.reduceEqDiff, id_eq, eq_self, c_one, c_set_to, qc, ↓DL.qtd, DL.qtu, ↓DL.qfd, DL.qfu]
  exact q _ rfl
def c__end_deeds (C_StripeForm : Addr) : CT
  | [.fz f], R, _ => ∃ v : Nat, f = formD C_StripeForm v ∧ (2 ≤ v ∧ v ≤ 5) ∧ ∀ m : DL.M, m.frz = .lst ((eDs v).map deedD) → R m []
  | _, _, _ => False
theorem sc__end_deeds : FnScope N__end_deeds ["form"] (defScope s__end_deeds) := ⟨rfl, rfl, rfl, by decide +kernel, rfl, by decide +kernel, by decide +kernel⟩
theorem ok__end_deeds (T : Txt K mg P w C_WreckError C_InvalidMachine C_InvalidDisk C_InvalidSketch C_NoSuchDeed C_CannotDo C_InvalidForm C_InvalidFile C_NoRoom C_Machine C_StripeForm) (G_one : FnAt P w K mg base TB 1 "one" ["value"] false c_one) (G_set_to : FnAt P w K mg base TB 1 "set_to" ["cell", "value"] false c_set_to) (F : TopFn K mg "_end_deeds" s__end_deeds ["form"]) : FnAt P w K mg base TB 2 "_end_deeds" ["form"] false (c__end_deeds C_StripeForm) := by
  have nd := sc__end_deeds.nd
  refine fnAt F sc__end_deeds (fun ms R X h => by unfold c__end_deeds at h; split at h <;> first | rfl | exact h.elim) (fun h => by cases h) fun f cdv A outer s H E x0 Xd hr => ?_
  refine ⟨_, _, (dss_cons (ds_set (i := 1) nd rfl (by first | exact Or.inl rfl | exact Or.inr rfl) (de_lst da_nil))
      (dss_cons (ds_for passD rfl (di_rng1 (by rfl) T.n_range (da_cons (de_attr (f := "alphabet") (fun C => C = C_StripeForm) rfl T.at_alphabet (dv 0)) da_nil)) (dg_name (i := 2) nd rfl (by first | exact Or.inl rfl | exact Or.inr rfl))
      (dss_one (ds_for passD rfl (di_rng1 (by rfl) T.n_range (da_cons (de_attr (f := "alphabet") (fun C => C = C_StripeForm) rfl T.at_alphabet (dv 0)) da_nil)) (dg_name (i := 3) nd rfl (by first | exact Or.inl rfl | exact Or.inr rfl))
      (dss_cons (ds_set (i := 4) nd rfl (by first | exact Or.inl rfl | exact Or.inr rfl) (de_tup (da_cons (de_tup (da_cons de_int (da_cons (de_callN G_one hr rfl rfl takesD (da_cons (dv 2) da_nil)) da_nil))) (da_cons (de_tup (da_cons de_int (da_cons (de_callN G_one hr rfl rfl takesD (da_cons (dv 3) da_nil)) da_nil))) (da_cons (de_tup (da_cons (de_gint T.c_WORK) (da_cons (de_gint T.c_SOME_WORK) da_nil))) da_nil)))))
      (dss_cons (ds_set (i := 5) nd rfl (by first | exact Or.inl rfl | exact Or.inr rfl) (de_tup (da_cons (de_callN G_set_to hr rfl rfl takesD (da_cons (de_gint T.c_PARITY) (da_cons (de_op op_modN od_mod (de_op (op_addA rfl) od_add (dv 2) (dv 3)) (de_attr (f := "alphabet") (fun C => C = C_StripeForm) rfl T.at_alphabet (dv 0))) da_nil))) (da_cons (de_callN G_set_to hr rfl rfl takesD (da_cons (de_gint T.c_WORK) (da_cons (de_gint T.c_NO_WORK) da_nil))) da_nil))))
      (dss_one (ds_expr (de_append (i := 1) rfl (da_cons (de_tup (da_cons (de_joined (DJs.cons de_str (DJs.cons (de_fmt (dv 2)) (DJs.cons (de_fmt (dv 3)) DJs.nil)))) (da_cons (dv 4) (da_cons (dv 5) da_nil)))) da_nil)))))))))
      (dss_one (ds_ret (dv 1))))), ?_⟩
  intro ms Rd h
  unfold c__end_deeds at h
  split at h <;> first | exact (show False from h).elim | skip
  rename_i f
  obtain ⟨v, rfl, hv, q⟩ := h
  have v3 : 2 ≤ v ∧ v ≤ 5 := by omega
  have eF : formD C_StripeForm v = .obj C_StripeForm [("alphabet", .int (v : Int))] := rfl
  simp -dsimp only [↓DL.qd, DL.qu, DL.qs, ↓DL.s_seq, mkD, D.key, dgetM, hide, hideS, Slot.fr?, Slot.m?, Slot.put, D.seqs, D.tyN, startD, List.replicate, Nat.reduceSub, Nat.reduceAdd, Nat.reduceLeDiff, wipeD, unw, freeAt, Slot.free, Nat.reduceEqDiff, id_eq, eq_self, c_one, c_set_to, qc, ↓DL.qtd, DL.qtu, ↓DL.qfd, DL.qfu,  eF]
  rw [Int.toNat_natCast]
  refine ⟨by decide, by omega, by omega, for_rng (fun i s => ∃ a b c d : DL.Slot, s = [.v (.fz (formD C_StripeForm v)), .v (.ml (((List.range i).flatMap fun n => (List.range v).map fun x => eDeed v n x).map deedD)), a, b, c, d] ∧ a.free = true ∧ b.free = true ∧ c.free = true ∧ d.free = true) ⟨.un, .un, .un, .un, rfl, rfl, rfl, rfl, rfl⟩ ?_ ?_⟩
  · rintro i s hi ⟨a, b, c, d, rfl, ha, hb, hc, hd⟩ N B R hN - -
    rw [Int.zero_add]
    have hl : ((List.range i).flatMap fun n => (List.range v).map fun x => eDeed v n x).length ≤ 100 := by
      rw [flat_len]
      exact Nat.le_trans (Nat.mul_le_mul (show i ≤ 5 by omega) v3.2) (by decide)
    obtain ⟨F, hF⟩ : ∃ F, F = ((List.range i).flatMap fun n => (List.range v).map fun x => eDeed v n x) := ⟨_, rfl⟩
    rw [← hF] at hl ⊢
    simp -dsimp only [↓DL.qd, DL.qu, DL.qs, ↓DL.s_seq, mkD, D.key, dgetM, hide, hideS, Slot.fr?, Slot.m?, Slot.put, D.seqs, D.tyN, startD, List.replicate, Nat.reduceSub, Nat.reduceAdd, Nat.reduceLeDiff, wipeD, unw, freeAt, Slot.free, Nat.reduceEqDiff, id_eq, eq_self, c_one, c_set_to, qc, ↓DL.qtd, DL.qtu, ↓DL.qfd, DL.qfu,  gset_free (free_pin ha), eF]
    rw [Int.toNat_natCast]
    refine ⟨by omega, by omega, for_rng (fun j s => ∃ b c d : DL.Slot, s = [.v (.fz (formD C_StripeForm v)), .v (.ml ((F ++ (List.range j).map fun x => eDeed v i x).map deedD)), .v (.fz (.int (i : Int))), b, c, d] ∧ b.free = true ∧ c.free = true ∧ d.free = true) ⟨b, c, d, by simp; rfl, hb, hc, hd⟩ ?_ ?_⟩
    · clear hb hc hd
      rintro j s hj ⟨b, c, d, rfl, hb, hc, hd⟩ N2 B R hN2 - -
      rw [Int.zero_add]
      have g1 := lg ⟨i, by omega⟩
      have g2 := lg ⟨j, by omega⟩
      have n1 := ne_len ⟨i, by omega⟩ ⟨j, by omega⟩
      simp only at g1 g2 n1
      have em : ((i : Int) + (j : Int)).fmod (v : Int) = (((i + j) % v : Nat) : Int) := by rw [Int.fmod_eq_emod_of_nonneg _ (by omega)]; push_cast; rfl
      simp -dsimp only [↓DL.qd, DL.qu, DL.qs, ↓DL.s_seq, mkD, D.key, dgetM, hide, hideS, Slot.fr?, Slot.m?, Slot.put, D.seqs, D.tyN, startD, List.replicate, Nat.reduceSub, Nat.reduceAdd, Nat.reduceLeDiff, wipeD, unw, freeAt, Slot.free, Nat.reduceEqDiff, id_eq, eq_self, c_one, c_set_to, qc, ↓DL.qtd, DL.qtu, ↓DL.qfd, DL.qfu,  gset_free (free_pin hb), gset_free (free_pin hc), gset_free (free_pin hd), eF, em]
      refine ⟨i, rfl, by omega, by decide, j, rfl, by omega, by decide, by decide, by decide, by omega, by decide, n1.1, g1, n1.2.1, g2, n1.2.2, by decide, by rw [List.length_map, List.length_append, List.length_map, List.length_range]; unfold sizeLine; omega, ?_⟩
      refine hN2 _ ⟨.v (.fz (.int (j : Int))), .v (.fz (.tup [.tup [.int 0, .int (1 * 2 ^ i)], .tup [.int 1, .int (1 * 2 ^ j)], .tup [.int 3, .int 6]])), .v (.fz (.tup [.tup [.int 2, .tup [.str "set", .int (((i + j) % v : Nat) : Int)]], .tup [.int 3, .tup [.str "set", .int 0]]])), ?_, rfl, rfl, rfl⟩
      rw [mapS]
      rfl
    rintro s ⟨b, c, d, rfl, hb, hc, hd⟩
    refine hN _ ⟨.v (.fz (.int (i : Int))), b, c, d, ?_, rfl, hb, hc, hd⟩
    rw [hF, flatS]
  rintro s ⟨a, b, c, d, rfl, ha, hb, hc, hd⟩
  simp -dsimp only [↓DL.qd, DL.qu, DL.qs, ↓DL.s_seq, mkD, D.key, dgetM, hide, hideS, Slot.fr?, Slot.m?, Slot.put, D.seqs, D.tyN, startD, List.replicate, Nat.reduceSub, Nat.reduceAdd, Nat.reduceLeDiff, wipeD, unw, freeAt, Slot.free, Nat.reduceEqDiff, id_eq, eq_self, c_one, c_set_to, qc, ↓DL.qtd, DL.qtu, ↓DL.qfd, DL.qfu]
  exact q _ rfl
def c__rebuild_deeds (C_StripeForm : Addr) : CT
  | [.fz f], R, _ => ∃ v : Nat, f = formD C_StripeForm v ∧ (2 ≤ v ∧ v ≤ 5) ∧ ∀ m : DL.M, m.frz = .lst ((rDs v).map deedD) → R m []
  | _, _, _ => False
theorem sc__rebuild_deeds : FnScope N__rebuild_deeds ["form"] (defScope s__rebuild_deeds) := ⟨rfl, rfl, rfl, by decide +kernel, rfl, by decide +kernel, by decide +kernel⟩
theorem ok__rebuild_deeds (T : Txt K mg P w C_WreckError C_InvalidMachine C_InvalidDisk C_InvalidSketch C_NoSuchDeed C_CannotDo C_InvalidForm C_InvalidFile C_NoRoom C_Machine C_StripeForm) (G_one : FnAt P w K mg base TB 1 "one" ["value"] false c_one) (G_set_to : FnAt P w K mg base TB 1 "set_to" ["cell", "value"] false c_set_to) (F : TopFn K mg "_rebuild_deeds" s__rebuild_deeds ["form"]) : FnAt P w K mg base TB 2 "_rebuild_deeds" ["form"] false (c__rebuild_deeds C_StripeForm) := by
  have nd := sc__rebuild_deeds.nd
  refine fnAt F sc__rebuild_deeds (fun ms R X h => by unfold c__rebuild_deeds at h; split at h <;> first | rfl | exact h.elim) (fun h => by cases h) fun f cdv A outer s H E x0 Xd hr => ?_
  refine ⟨_, _, (dss_cons (ds_set (i := 1) nd rfl (by first | exact Or.inl rfl | exact Or.inr rfl) (de_lst da_nil))
      (dss_cons (ds_for passD rfl (di_rng1 (by rfl) T.n_range (da_cons de_int da_nil)) (dg_name (i := 2) nd rfl (by first | exact Or.inl rfl | exact Or.inr rfl))
      (dss_one (ds_for passD rfl (di_rng1 (by rfl) T.n_range (da_cons (de_attr (f := "alphabet") (fun C => C = C_StripeForm) rfl T.at_alphabet (dv 0)) da_nil)) (dg_name (i := 3) nd rfl (by first | exact Or.inl rfl | exact Or.inr rfl))
      (dss_one (ds_for passD rfl (di_rng1 (by rfl) T.n_range (da_cons (de_attr (f := "alphabet") (fun C => C = C_StripeForm) rfl T.at_alphabet (dv 0)) da_nil)) (dg_name (i := 4) nd rfl (by first | exact Or.inl rfl | exact Or.inr rfl))
      (dss_cons (ds_set (i := 5) nd rfl (by first | exact Or.inl rfl | exact Or.inr rfl) (de_tup (da_cons (de_tup (da_cons (de_op op_sub od_sub de_int (dv 2)) (da_cons (de_callN G_one hr rfl rfl takesD (da_cons (dv 3) da_nil)) da_nil))) (da_cons (de_tup (da_cons (de_gint T.c_PARITY) (da_cons (de_callN G_one hr rfl rfl takesD (da_cons (dv 4) da_nil)) da_nil))) (da_cons (de_tup (da_cons (de_gint T.c_WORK) (da_cons (de_callN G_one hr rfl rfl takesD (da_cons (de_gint T.c_NO_WORK) da_nil)) da_nil))) da_nil)))))
      (dss_cons (ds_set (i := 6) nd rfl (by first | exact Or.inl rfl | exact Or.inr rfl) (de_tup (da_cons (de_callN G_set_to hr rfl rfl takesD (da_cons (dv 2) (da_cons (de_op op_modN od_mod (de_op op_sub od_sub (dv 4) (dv 3)) (de_attr (f := "alphabet") (fun C => C = C_StripeForm) rfl T.at_alphabet (dv 0))) da_nil))) da_nil)))
      (dss_one (ds_expr (de_append (i := 1) rfl (da_cons (de_tup (da_cons (de_joined (DJs.cons de_str (DJs.cons (de_fmt (dv 2)) (DJs.cons (de_fmt (dv 3)) (DJs.cons (de_fmt (dv 4)) DJs.nil))))) (da_cons (dv 5) (da_cons (dv 6) da_nil)))) da_nil)))))))))))
      (dss_one (ds_ret (dv 1))))), ?_⟩
  intro ms Rd h
  unfold c__rebuild_deeds at h
  split at h <;> first | exact (show False from h).elim | skip
  rename_i f
  obtain ⟨v, rfl, hv, q⟩ := h
  have v3 : 2 ≤ v ∧ v ≤ 5 := by omega
  have eF : formD C_StripeForm v = .obj C_StripeForm [("alphabet", .int (v : Int))] := rfl
  simp -dsimp only [↓DL.qd, DL.qu, DL.qs, ↓DL.s_seq, mkD, D.key, dgetM, hide, hideS, Slot.fr?, Slot.m?, Slot.put, D.seqs, D.tyN, startD, List.replicate, Nat.reduceSub, Nat.reduceAdd, Nat.reduceLeDiff, wipeD, unw, freeAt, Slot.free, Nat.reduceEqDiff, id_eq, eq_self, c_one, c_set_to, qc, ↓DL.qtd, DL.qtu, ↓DL.qfd, DL.qfu,  eF]
  refine ⟨by decide, by decide, by decide, for_rng (fun i s => ∃ a b c d e : DL.Slot, s = [.v (.fz (formD C_StripeForm v)), .v (.ml (((List.range i).flatMap fun n => (List.range v).flatMap fun o => (List.range v).map fun p => rDeed v n o p).map deedD)), a, b, c, d, e] ∧ a.free = true ∧ b.free = true ∧ c.free = true ∧ d.free = true ∧ e.free = true) ⟨.un, .un, .un, .un, .un, rfl, rfl, rfl, rfl, rfl, rfl⟩ ?_ ?_⟩
  · rintro i s hi ⟨a, b, c, d, e, rfl, ha, hb, hc, hd, he⟩ N B R hN - -
    have hi : i < 2 := by omega
    rw [Int.zero_add]
    have hl : ((List.range i).flatMap fun n => (List.range v).flatMap fun o => (List.range v).map fun p => rDeed v n o p).length ≤ 100 := by
      rcases (show i = 0 ∨ i = 1 by omega) with rfl | rfl
      · simp
      · rw [flatS]
        simp only [List.range_zero, List.flatMap_nil, List.nil_append]
        rw [flat_len]
        exact Nat.le_trans (Nat.mul_le_mul v3.2 v3.2) (by decide)
    obtain ⟨F, hF⟩ : ∃ F, F = ((List.range i).flatMap fun n => (List.range v).flatMap fun o => (List.range v).map fun p => rDeed v n o p) := ⟨_, rfl⟩
    rw [← hF] at hl ⊢
    simp -dsimp only [↓DL.qd, DL.qu, DL.qs, ↓DL.s_seq, mkD, D.key, dgetM, hide, hideS, Slot.fr?, Slot.m?, Slot.put, D.seqs, D.tyN, startD, List.replicate, Nat.reduceSub, Nat.reduceAdd, Nat.reduceLeDiff, wipeD, unw, freeAt, Slot.free, Nat.reduceEqDiff, id_eq, eq_self, c_one, c_set_to, qc, ↓DL.qtd, DL.qtu, ↓DL.qfd, DL.qfu,  gset_free (free_pin ha), eF]
    rw [Int.toNat_natCast]
    refine ⟨by omega, by omega, for_rng (fun k s => ∃ b c d e : DL.Slot, s = [.v (.fz (formD C_StripeForm v)), .v (.ml ((F ++ (List.range k).flatMap fun o => (List.range v).map fun p => rDeed v i o p).map deedD)), .v (.fz (.int (i : Int))), b, c, d, e] ∧ b.free = true ∧ c.free = true ∧ d.free = true ∧ e.free = true) ⟨b, c, d, e, by simp; rfl, hb, hc, hd, he⟩ ?_ ?_⟩
    · clear hb hc hd he
      rintro k s hk ⟨b, c, d, e, rfl, hb, hc, hd, he⟩ N2 B R hN2 - -
      rw [Int.zero_add]
      have hl2 : ((List.range k).flatMap fun o => (List.range v).map fun p => rDeed v i o p).length ≤ 100 := by
        rw [flat_len]
        exact Nat.le_trans (Nat.mul_le_mul (show k ≤ 5 by omega) v3.2) (by decide)
      obtain ⟨G, hG⟩ : ∃ G, G = F ++ (List.range k).flatMap fun o => (List.range v).map fun p => rDeed v i o p := ⟨_, rfl⟩
      have hGl : G.length ≤ 200 := by rw [hG, List.length_append]; omega
      rw [← hG]
      simp -dsimp only [↓DL.qd, DL.qu, DL.qs, ↓DL.s_seq, mkD, D.key, dgetM, hide, hideS, Slot.fr?, Slot.m?, Slot.put, D.seqs, D.tyN, startD, List.replicate, Nat.reduceSub, Nat.reduceAdd, Nat.reduceLeDiff, wipeD, unw, freeAt, Slot.free, Nat.reduceEqDiff, id_eq, eq_self, c_one, c_set_to, qc, ↓DL.qtd, DL.qtu, ↓DL.qfd, DL.qfu,  gset_free (free_pin hb), eF]
      rw [Int.toNat_natCast]
      refine ⟨by omega, by omega, for_rng (fun j s => ∃ c d e : DL.Slot, s = [.v (.fz (formD C_StripeForm v)), .v (.ml ((G ++ (List.range j).map fun p => rDeed v i k p).map deedD)), .v (.fz (.int (i : Int))), .v (.fz (.int (k : Int))), c, d, e] ∧ c.free = true ∧ d.free = true ∧ e.free = true) ⟨c, d, e, by simp; rfl, hc, hd, he⟩ ?_ ?_⟩
      · clear hc hd he
        rintro j s hj ⟨c, d, e, rfl, hc, hd, he⟩ N3 B R hN3 - -
        rw [Int.zero_add]
        have g1 := lg ⟨i, by omega⟩
        have g2 := lg ⟨k, by omega⟩
        have g3 := lg ⟨j, by omega⟩
        have n1 := nr_len ⟨i, by omega⟩ ⟨k, by omega⟩ ⟨j, by omega⟩
        simp only at g1 g2 g3 n1
        have em : ((j : Int) - (k : Int)).fmod (v : Int) = (((j + v - k) % v : Nat) : Int) := by
          rw [Int.fmod_eq_emod_of_nonneg _ (by omega), Int.natCast_emod, show ((j + v - k : Nat) : Int) = (j : Int) - k + v by omega, Int.add_emod_right]
        simp -dsimp only [↓DL.qd, DL.qu, DL.qs, ↓DL.s_seq, mkD, D.key, dgetM, hide, hideS, Slot.fr?, Slot.m?, Slot.put, D.seqs, D.tyN, startD, List.replicate, Nat.reduceSub, Nat.reduceAdd, Nat.reduceLeDiff, wipeD, unw, freeAt, Slot.free, Nat.reduceEqDiff, id_eq, eq_self, c_one, c_set_to, qc, ↓DL.qtd, DL.qtu, ↓DL.qfd, DL.qfu,  gset_free (free_pin hc), gset_free (free_pin hd), gset_free (free_pin he), eF, em]
        have e1 : (1 : Int) - (i : Int) = ((1 - i : Nat) : Int) := by omega
        rw [e1]
        refine ⟨k, rfl, by omega, by decide, j, rfl, by omega, by decide, 0, rfl, by decide, by decide, by decide, by omega, by decide, n1.1, g1, n1.2.1, g2, n1.2.2.1, g3, n1.2.2.2, by decide, by rw [List.length_map, List.length_append, List.length_map, List.length_range]; unfold sizeLine; omega, ?_⟩
        refine hN3 _ ⟨.v (.fz (.int (j : Int))), .v (.fz (.tup ((rG i k j).map gdD))), .v (.fz (.tup [.tup [.int (i : Int), .tup [.str "set", .int (((j + v - k) % v : Nat) : Int)]]])), ?_, rfl, rfl, rfl⟩
        rw [mapS]
        rfl
      rintro s ⟨c, d, e, rfl, hc, hd, he⟩
      refine hN2 _ ⟨.v (.fz (.int (k : Int))), c, d, e, ?_, rfl, hc, hd, he⟩
      rw [hG, flatS, List.append_assoc]
    rintro s ⟨b, c, d, e, rfl, hb, hc, hd, he⟩
    refine hN _ ⟨.v (.fz (.int (i : Int))), b, c, d, e, ?_, rfl, hb, hc, hd, he⟩
    rw [hF, flatS]
  rintro s ⟨a, b, c, d, e, rfl, ha, hb, hc, hd, he⟩
  simp -dsimp only [↓DL.qd, DL.qu, DL.qs, ↓DL.s_seq, mkD, D.key, dgetM, hide, hideS, Slot.fr?, Slot.m?, Slot.put, D.seqs, D.tyN, startD, List.replicate, Nat.reduceSub, Nat.reduceAdd, Nat.reduceLeDiff, wipeD, unw, freeAt, Slot.free, Nat.reduceEqDiff, id_eq, eq_self, c_one, c_set_to, qc, ↓DL.qtd, DL.qtu, ↓DL.qfd, DL.qfu]
  exact q _ rfl
def c_stripe_machine (C_Machine C_StripeForm : Addr) : CT
  | [.fz f], R, _ => ∃ v : Nat, f = formD C_StripeForm v ∧ (2 ≤ v ∧ v ≤ 5) ∧ R (.fz (machD C_Machine (SM v))) []
  | _, _, _ => False
theorem sc_stripe_machine : FnScope N_stripe_machine ["form"] (defScope s_stripe_machine) := ⟨rfl, rfl, rfl, by decide +kernel, rfl, by decide +kernel, by decide +kernel⟩
theorem ok_stripe_machine (T : Txt K mg P w C_WreckError C_InvalidMachine C_InvalidDisk C_InvalidSketch C_NoSuchDeed C_CannotDo C_InvalidForm C_InvalidFile C_NoRoom C_Machine C_StripeForm) (G_Machine_init : InAt P w K mg base TB 3 "Machine" C_Machine ["self", "cells", "deeds", "first"] (c_Machine_init C_Machine)) (G__begin_deeds : FnAt P w K mg base TB 2 "_begin_deeds" ["form"] false (c__begin_deeds C_StripeForm)) (G__end_deeds : FnAt P w K mg base TB 2 "_end_deeds" ["form"] false (c__end_deeds C_StripeForm)) (G__rebuild_deeds : FnAt P w K mg base TB 2 "_rebuild_deeds" ["form"] false (c__rebuild_deeds C_StripeForm)) (F : TopFn K mg "stripe_machine" s_stripe_machine ["form"]) : FnAt P w K mg base TB 5 "stripe_machine" ["form"] false (c_stripe_machine C_Machine C_StripeForm) := by
  have nd := sc_stripe_machine.nd
  refine fnAt F sc_stripe_machine (fun ms R X h => by unfold c_stripe_machine at h; split at h <;> first | rfl | exact h.elim) (fun h => by cases h) fun f cdv A outer s H E x0 Xd hr => ?_
  refine ⟨_, _, (dss_cons (ds_set (i := 1) nd rfl (by first | exact Or.inl rfl | exact Or.inr rfl) (de_lst (da_cons (de_tup (da_cons de_str (da_cons (de_attr (f := "alphabet") (fun C => C = C_StripeForm) rfl T.at_alphabet (dv 0)) da_nil))) (da_cons (de_tup (da_cons de_str (da_cons (de_attr (f := "alphabet") (fun C => C = C_StripeForm) rfl T.at_alphabet (dv 0)) da_nil))) (da_cons (de_tup (da_cons de_str (da_cons (de_attr (f := "alphabet") (fun C => C = C_StripeForm) rfl T.at_alphabet (dv 0)) da_nil))) (da_cons (de_tup (da_cons de_str (da_cons de_int da_nil))) da_nil))))))
      (dss_cons (ds_set (i := 2) nd rfl (by first | exact Or.inl rfl | exact Or.inr rfl) (de_op (op_addA rfl) od_add (de_op (op_addA rfl) od_add (de_callN G__begin_deeds (hr.mono (by decide)) rfl rfl takesD (da_cons (dv 0) da_nil)) (de_callN G__end_deeds (hr.mono (by decide)) rfl rfl takesD (da_cons (dv 0) da_nil))) (de_callN G__rebuild_deeds (hr.mono (by decide)) rfl rfl takesD (da_cons (dv 0) da_nil))))
      (dss_one (ds_ret (de_fz (de_make G_Machine_init hr rfl rfl takesD (da_cons (dv 1) (da_cons (dv 2) (da_cons (de_tup (da_cons de_int (da_cons de_int (da_cons de_int (da_cons de_int da_nil))))) da_nil))))))))), ?_⟩
  intro ms Rd h
  unfold c_stripe_machine at h
  split at h <;> first | exact (show False from h).elim | skip
  rename_i f
  obtain ⟨v, rfl, hv, q⟩ := h
  have eF : formD C_StripeForm v = .obj C_StripeForm [("alphabet", .int (v : Int))] := rfl
  have lb : (bDs v).length ≤ 100 ∧ (eDs v).length ≤ 100 ∧ (rDs v).length ≤ 100 := by rcases v25 hv with rfl | rfl | rfl | rfl <;> decide
  simp -dsimp only [↓DL.qd, DL.qu, DL.qs, ↓DL.s_seq, mkD, D.key, dgetM, hide, hideS, Slot.fr?, Slot.m?, Slot.put, D.seqs, D.tyN, startD, List.replicate, Nat.reduceSub, Nat.reduceAdd, Nat.reduceLeDiff, wipeD, unw, freeAt, Slot.free, Nat.reduceEqDiff, id_eq, eq_self, c_Machine_init, c__begin_deeds, c__end_deeds, c__rebuild_deeds, qc, ↓DL.qtd, DL.qtu, ↓DL.qfd, DL.qfu,  eF]
  refine ⟨by decide, by decide, by decide, by decide, by decide, v, rfl, hv.1, hv.2, fun m1 h1 => ⟨v, rfl, hv.1, hv.2, fun m2 h2 => ?_⟩⟩
  simp -dsimp only [↓DL.qd, DL.qu, DL.qs, ↓DL.s_seq, mkD, D.key, dgetM, hide, hideS, Slot.fr?, Slot.m?, Slot.put, D.seqs, D.tyN, startD, List.replicate, Nat.reduceSub, Nat.reduceAdd, Nat.reduceLeDiff, wipeD, unw, freeAt, Slot.free, Nat.reduceEqDiff, id_eq, eq_self, c_Machine_init, c__begin_deeds, c__end_deeds, c__rebuild_deeds, qc, ↓DL.qtd, DL.qtu, ↓DL.qfd, DL.qfu,  h1, h2, List.length_map]
  refine ⟨by unfold sizeLine; omega, v, rfl, hv.1, hv.2, fun m3 h3 => ?_⟩
  simp -dsimp only [↓DL.qd, DL.qu, DL.qs, ↓DL.s_seq, mkD, D.key, dgetM, hide, hideS, Slot.fr?, Slot.m?, Slot.put, D.seqs, D.tyN, startD, List.replicate, Nat.reduceSub, Nat.reduceAdd, Nat.reduceLeDiff, wipeD, unw, freeAt, Slot.free, Nat.reduceEqDiff, id_eq, eq_self, c_Machine_init, c__begin_deeds, c__end_deeds, c__rebuild_deeds, qc, ↓DL.qtd, DL.qtu, ↓DL.qfd, DL.qfu,  h3, List.length_map]
  refine ⟨by rw [List.length_append, List.length_map, List.length_map]; unfold sizeLine; omega, by decide, ?_⟩
  refine ⟨SM v, .inl rfl, ?_, rfl, SM_ok5 hv, ?_⟩
  · show _ = D.lst ((bDs v ++ eDs v ++ rDs v).map deedD)
    rw [List.map_append, List.map_append]
  rw [machM_frz]
  try simp -dsimp only [↓DL.qd, DL.qu, DL.qs, ↓DL.s_seq, mkD, D.key, dgetM, hide, hideS, Slot.fr?, Slot.m?, Slot.put, D.seqs, D.tyN, startD, List.replicate, Nat.reduceSub, Nat.reduceAdd, Nat.reduceLeDiff, wipeD, unw, freeAt, Slot.free, Nat.reduceEqDiff, id_eq, eq_self, c_Machine_init, c__begin_deeds, c__end_deeds, c__rebuild_deeds, qc, ↓DL.qtd, DL.qtu, ↓DL.qfd, DL.qfu]
  exact q
theorem cs_b : ∀ n x : _root_.Fin 6, (nmOf "b" [n.val, x.val]).cps.toList = [98, 48 + n.val, 48 + x.val] := by decide +kernel
theorem cs_e : ∀ n x : _root_.Fin 6, (nmOf "e" [n.val, x.val]).cps.toList = [101, 48 + n.val, 48 + x.val] := by decide +kernel
theorem cs_r : ∀ n x y : _root_.Fin 6, (nmOf "r" [n.val, x.val, y.val]).cps.toList = [114, 48 + n.val, 48 + x.val, 48 + y.val] := by decide +kernel
theorem int1 : ∀ n : _root_.Fin 6, intText? ⟨#[48 + n.val]⟩ = some (n.val : Int) := by decide +kernel
def digN (v : Nat) (d : Deed) : Prop := (∃ n x, n < 2 ∧ x < v ∧ d = bDeed n x) ∨ (∃ f s, f < v ∧ s < v ∧ d = eDeed v f s) ∨ ∃ n o p, n < 2 ∧ o < v ∧ p < v ∧ d = rDeed v n o p
theorem SM_mem {v : Nat} {d : Deed} (h : d ∈ (SM v).ds) : digN v d := by
  rcases List.mem_append.mp (show d ∈ bDs v ++ eDs v ++ rDs v from h) with h | h
  · rcases List.mem_append.mp h with h | h
    · obtain ⟨n, hn, h⟩ := List.mem_flatMap.mp h
      obtain ⟨x, hx, rfl⟩ := List.mem_map.mp h
      exact .inl ⟨n, x, List.mem_range.mp hn, List.mem_range.mp hx, rfl⟩
    · obtain ⟨n, hn, h⟩ := List.mem_flatMap.mp h
      obtain ⟨x, hx, rfl⟩ := List.mem_map.mp h
      exact .inr (.inl ⟨n, x, List.mem_range.mp hn, List.mem_range.mp hx, rfl⟩)
  · obtain ⟨n, hn, h⟩ := List.mem_flatMap.mp h
    obtain ⟨o, ho, h⟩ := List.mem_flatMap.mp h
    obtain ⟨p, hp, rfl⟩ := List.mem_map.mp h
    exact .inr (.inr ⟨n, o, p, List.mem_range.mp hn, List.mem_range.mp ho, List.mem_range.mp hp, rfl⟩)
def c__law_stripe : CT
  | [.fz (.int vv), .fz (.tup x), .fz (.str nm)], R, _ => ∃ (v : Nat) (xs : List Int) (d : Deed), vv = (v : Int) ∧ (2 ≤ v ∧ v ≤ 5) ∧ x = xs.map .int ∧ dk (SM v).sz xs ∧ d ∈ (SM v).ds ∧ nm = d.nm ∧ R (.fz (optI (if can d xs = true then some (aft d xs) else none))) []
  | _, _, _ => False
theorem sc__law_stripe : FnScope N__law_stripe ["values", "disk", "name"] (defScope s__law_stripe) := ⟨rfl, rfl, rfl, by decide +kernel, rfl, by decide +kernel, by decide +kernel⟩
theorem ok__law_stripe (T : Txt K mg P w C_WreckError C_InvalidMachine C_InvalidDisk C_InvalidSketch C_NoSuchDeed C_CannotDo C_InvalidForm C_InvalidFile C_NoRoom C_Machine C_StripeForm) (F : TopFn K mg "_law_stripe" s__law_stripe ["values", "disk", "name"]) : FnAt P w K mg base TB 1 "_law_stripe" ["values", "disk", "name"] false c__law_stripe := by
  have nd := sc__law_stripe.nd
  refine fnAt F sc__law_stripe (fun ms R X h => by unfold c__law_stripe at h; split at h <;> first | rfl | exact h.elim) (fun h => by cases h) fun f cdv A outer s H E x0 Xd hr => ?_
  refine ⟨_, _, (dss_cons (ds_set (i := 3) nd rfl (by first | exact Or.inl rfl | exact Or.inr rfl) (de_ix rfl (hu1 hr) (dv 2) de_int))
      (dss_cons (ds_setLc (i := 4) (own := [("char", 6)]) rfl nd rfl rfl (sw_true rfl rfl rfl (by decide +kernel)) (di_any rfl (de_sl rfl (dv 2) (do_some de_int) do_none)) (blkOk_by (N := N__law_stripe) (sc := defScope s__law_stripe) (by decide +kernel)) (GOnly.name (by decide)) GMono.name (fun _ _ _ _ _ => (dg_name (i := 6) nd rfl (by first | exact Or.inl rfl | exact Or.inr rfl))) (fun _ _ _ _ _ => dts_nil) (fun _ _ _ _ _ => (de_callTy call_intA cd_int (by rfl) T.n_int bo_int (da_cons (dv 6) da_nil))))
      (dss_cons (ds_if (dt_cmp (op_eqA rfl (hu64 hr)) od_eq (dv 3) de_str (nomark _))
      (dss_cons (ds_if (dt_cmp (op_neA rfl (hu64 hr)) od_ne (de_ix rfl (hu1 hr) (dv 1) de_int) de_int (nomark _))
      (dss_one (ds_ret de_non))
      dss_nil)
      (dss_cons (ds_set (i := 5) nd rfl (by first | exact Or.inl rfl | exact Or.inr rfl) (de_callTy (call_listA rfl) cd_list (by rfl) T.n_list bo_list (da_cons (dv 1) da_nil)))
      (dss_cons (ds_setI (i := 5) rfl (de_ix rfl (hu1 hr) (dv 4) de_int) (de_ix rfl (hu1 hr) (dv 4) de_int))
      (dss_cons (ds_setI (i := 5) rfl (de_op (op_addA rfl) od_add de_int (de_ix rfl (hu1 hr) (dv 4) de_int)) de_int)
      (dss_one (ds_ret (de_callTy (call_tupleA rfl) cd_tuple (by rfl) T.n_tuple bo_tuple (da_cons (dv 5) da_nil))))))))
      dss_nil)
      (dss_cons (ds_if (dt_cmp (op_eqA rfl (hu64 hr)) od_eq (dv 3) de_str (nomark _))
      (dss_cons (ds_if (DW.pt (dw_or (dt_cmp (op_eqA rfl (hu64 hr)) od_eq (de_ix rfl (hu1 hr) (dv 1) de_int) de_int (nomark _)) (dw_or1 (dt_cmp (op_neA rfl (hu64 hr)) od_ne (de_sl rfl (dv 1) do_none (do_some de_int)) (de_tup (da_cons (de_ix rfl (hu1 hr) (dv 4) de_int) (da_cons (de_ix rfl (hu1 hr) (dv 4) de_int) da_nil))) (nomark _)))))
      (dss_one (ds_ret de_non))
      dss_nil)
      (dss_one (ds_ret (de_tup (da_cons (de_ix rfl (hu1 hr) (dv 1) de_int) (da_cons (de_ix rfl (hu1 hr) (dv 1) de_int) (da_cons (de_op op_modN od_mod (de_op (op_addA rfl) od_add (de_ix rfl (hu1 hr) (dv 1) de_int) (de_ix rfl (hu1 hr) (dv 1) de_int)) (dv 0)) (da_cons de_int da_nil))))))))
      dss_nil)
      (dss_cons (ds_if (DW.pt (dw_or (dt_cmp (op_neA rfl (hu64 hr)) od_ne (de_ix rfl (hu1 hr) (dv 1) de_int) de_int (nomark _)) (dw_or (dt_cmp (op_neA rfl (hu64 hr)) od_ne (de_ix rfl (hu1 hr) (dv 1) (de_op op_sub od_sub de_int (de_ix rfl (hu1 hr) (dv 4) de_int))) (de_ix rfl (hu1 hr) (dv 4) de_int) (nomark _)) (dw_or1 (dt_cmp (op_neA rfl (hu64 hr)) od_ne (de_ix rfl (hu1 hr) (dv 1) de_int) (de_ix rfl (hu1 hr) (dv 4) de_int) (nomark _))))))
      (dss_one (ds_ret de_non))
      dss_nil)
      (dss_cons (ds_set (i := 5) nd rfl (by first | exact Or.inl rfl | exact Or.inr rfl) (de_callTy (call_listA rfl) cd_list (by rfl) T.n_list bo_list (da_cons (dv 1) da_nil)))
      (dss_cons (ds_setI (i := 5) rfl (de_op op_modN od_mod (de_op op_sub od_sub (de_ix rfl (hu1 hr) (dv 1) de_int) (de_ix rfl (hu1 hr) (dv 1) (de_op op_sub od_sub de_int (de_ix rfl (hu1 hr) (dv 4) de_int)))) (dv 0)) (de_ix rfl (hu1 hr) (dv 4) de_int))
      (dss_one (ds_ret (de_callTy (call_tupleA rfl) cd_tuple (by rfl) T.n_tuple bo_tuple (da_cons (dv 5) da_nil))))))))))), ?_⟩
  intro ms Rd h
  unfold c__law_stripe at h
  split at h <;> first | exact (show False from h).elim | skip
  rename_i vv x nm
  obtain ⟨v, xs, d, rfl, hv, rfl, hx, hd, rfl, q⟩ := h
  obtain ⟨x0, x1, x2, x3, rfl⟩ : ∃ a b c e, xs = [a, b, c, e] := by
    have hl := hx.1
    match xs, hl with
    | [a, b, c, e], _ => exact ⟨a, b, c, e, rfl⟩
  have b0 := hx.2 0 (by show 0 < 4; decide)
  have b1 := hx.2 1 (by show 1 < 4; decide)
  have b2 := hx.2 2 (by show 2 < 4; decide)
  have b3 := hx.2 3 (by show 3 < 4; decide)
  simp only [SM_sz, gi, List.getD_cons_zero, List.getD_cons_succ] at b0 b1 b2 b3
  obtain ⟨c, L, ec, hL, hcs⟩ : ∃ (c : Nat) (L : List Nat), d.nm.cps.toList = c :: L.map (48 + ·) ∧ (∀ k ∈ L, k < 6) ∧ ((c = 98 ∧ ∃ n y, n < 2 ∧ y < v ∧ L = [n, y] ∧ d = bDeed n y) ∨ (c = 101 ∧ ∃ f s, f < v ∧ s < v ∧ L = [f, s] ∧ d = eDeed v f s) ∨ (c = 114 ∧ ∃ n o p, n < 2 ∧ o < v ∧ p < v ∧ L = [n, o, p] ∧ d = rDeed v n o p)) := by
    rcases SM_mem hd with ⟨n, y, hn, hy, rfl⟩ | ⟨f, s, hf, hs, rfl⟩ | ⟨n, o, p, hn, ho, hp, rfl⟩
    · exact ⟨98, [n, y], cs_b ⟨n, by omega⟩ ⟨y, by omega⟩, by simp; omega, .inl ⟨rfl, n, y, hn, hy, rfl, rfl⟩⟩
    · exact ⟨101, [f, s], cs_e ⟨f, by omega⟩ ⟨s, by omega⟩, by simp; omega, .inr (.inl ⟨rfl, f, s, hf, hs, rfl, rfl⟩)⟩
    · exact ⟨114, [n, o, p], cs_r ⟨n, by omega⟩ ⟨o, by omega⟩ ⟨p, by omega⟩, by simp; omega, .inr (.inr ⟨rfl, n, o, p, hn, ho, hp, rfl, rfl⟩)⟩
  have hLl : L.length ≤ 3 := by rcases hcs with ⟨_, _, _, _, _, rfl, _⟩ | ⟨_, _, _, _, _, rfl, _⟩ | ⟨_, _, _, _, _, _, _, rfl, _⟩ <;> simp
  obtain ⟨nm, hnm⟩ : ∃ nm, nm = d.nm := ⟨_, rfl⟩
  rw [← hnm] at ec ⊢
  have hnl : nm.length = L.length + 1 := by rw [str_len, ec]; simp
  have a0 : atI nm.cps.toList 0 = some c := by rw [ec]; exact ix0
  have echr : chars (cutS nm (some 1) none) = L.map fun k => D.str ⟨#[48 + k]⟩ := by
    have e1 : (cutS nm (some 1) none).cps.toList = L.map (48 + ·) := by
      show cutG nm.cps.toList (some 1) none = _
      rw [DL.cut_from1, ec]
      rfl
    show (cutS nm (some 1) none).cps.toList.map (fun c => D.str ⟨#[c]⟩) = _
    rw [e1, List.map_map]
    rfl
  simp -dsimp only [↓DL.qd, DL.qu, DL.qs, ↓DL.s_seq, mkD, D.key, dgetM, hide, hideS, Slot.fr?, Slot.m?, Slot.put, D.seqs, D.tyN, startD, List.replicate, Nat.reduceSub, Nat.reduceAdd, Nat.reduceLeDiff, wipeD, unw, freeAt, Slot.free, Nat.reduceEqDiff, id_eq, eq_self, qc, ↓DL.qtd, DL.qtu, ↓DL.qfd, DL.qfu,  a0]
  rw [echr]
  refine ⟨by unfold sizeLine; omega, by unfold sizeLine; omega, ?_⟩
  refine lcR_mapE (emb := fun k => D.str ⟨#[48 + k]⟩) (Eq _) (fun k => natD k) (by unfold sizeLine; omega) rfl ?_ ?_
  · rintro k hk s rfl R hR
    have hi := int1 ⟨k, hL k hk⟩
    simp only at hi
    simp -dsimp only [↓DL.qd, DL.qu, DL.qs, ↓DL.s_seq, mkD, D.key, dgetM, hide, hideS, Slot.fr?, Slot.m?, Slot.put, D.seqs, D.tyN, startD, List.replicate, Nat.reduceSub, Nat.reduceAdd, Nat.reduceLeDiff, wipeD, unw, freeAt, Slot.free, Nat.reduceEqDiff, id_eq, eq_self, qc, ↓DL.qtd, DL.qtu, ↓DL.qfd, DL.qfu,  o_intS hi]
    exact ⟨by show 1 ≤ 640; decide, hR _ _ rfl rfl⟩
  rintro s' rfl
  have y3 : ∀ a b c e : Int, atI [D.int a, D.int b, D.int c, D.int e] 3 = some (.int e) := fun _ _ _ _ => rfl
  have y2 : ∀ a b c e : Int, atI [D.int a, D.int b, D.int c, D.int e] 2 = some (.int c) := fun _ _ _ _ => rfl
  have y1 : ∀ a b c e : Int, atI [D.int a, D.int b, D.int c, D.int e] 1 = some (.int b) := fun _ _ _ _ => rfl
  have y0 : ∀ a b c e : Int, atI [D.int a, D.int b, D.int c, D.int e] 0 = some (.int a) := fun _ _ _ _ => rfl
  have i3 : ixN 4 3 = some 3 := rfl
  rcases hcs with ⟨rfl, n, y, hn, hy, rfl, rfl⟩ | ⟨rfl, f, s, hf, hs, rfl, rfl⟩ | ⟨rfl, n, o, p, hn, ho, hp, rfl, rfl⟩
  · have z0 : atI [D.int (n : Int), D.int (y : Int)] 0 = some (.int (n : Int)) := rfl
    have z1 : atI [D.int (n : Int), D.int (y : Int)] 1 = some (.int (y : Int)) := rfl
    have l1 : decide ((⟨#[98]⟩ : Str) = Str.ofString "b") = true := by decide +kernel
    simp -dsimp only [↓DL.qd, DL.qu, DL.qs, ↓DL.s_seq, mkD, D.key, dgetM, hide, hideS, Slot.fr?, Slot.m?, Slot.put, D.seqs, D.tyN, startD, List.replicate, Nat.reduceSub, Nat.reduceAdd, Nat.reduceLeDiff, wipeD, unw, freeAt, Slot.free, Nat.reduceEqDiff, id_eq, eq_self, qc, ↓DL.qtd, DL.qtu, ↓DL.qfd, DL.qfu,  natD, o_eqS, l1, y3]
    have hcan : can (bDeed n y) [x0, x1, x2, x3] = decide (x3 = 0) := by
      show (has 1 x3 && true) = _
      rw [Bool.and_true, show (1 : Int) = 1 * 2 ^ (0 : Int).toNat from rfl, has_one (by decide) (by unfold sv; omega)]
    rw [hcan] at q
    by_cases h3 : x3 = 0
    · subst h3
      rw [if_pos (by decide)] at q
      rw [decide_eq_true rfl]
      simp -dsimp only [↓DL.qd, DL.qu, DL.qs, ↓DL.s_seq, mkD, D.key, dgetM, hide, hideS, Slot.fr?, Slot.m?, Slot.put, D.seqs, D.tyN, startD, List.replicate, Nat.reduceSub, Nat.reduceAdd, Nat.reduceLeDiff, wipeD, unw, freeAt, Slot.free, Nat.reduceEqDiff, id_eq, eq_self, qc, ↓DL.qtd, DL.qtu, ↓DL.qfd, DL.qfu,  natD, z0, z1]
      rcases (show n = 0 ∨ n = 1 by omega) with rfl | rfl
      · rw [show ixN 4 ((0 : Nat) : Int) = some 0 from rfl]
        simp -dsimp only [↓DL.qd, DL.qu, DL.qs, ↓DL.s_seq, mkD, D.key, dgetM, hide, hideS, Slot.fr?, Slot.m?, Slot.put, D.seqs, D.tyN, startD, List.replicate, Nat.reduceSub, Nat.reduceAdd, Nat.reduceLeDiff, wipeD, unw, freeAt, Slot.free, Nat.reduceEqDiff, id_eq, eq_self, qc, ↓DL.qtd, DL.qtu, ↓DL.qfd, DL.qfu,  z0, i3]
        exact q
      · rw [show ixN 4 ((1 : Nat) : Int) = some 1 from rfl]
        simp -dsimp only [↓DL.qd, DL.qu, DL.qs, ↓DL.s_seq, mkD, D.key, dgetM, hide, hideS, Slot.fr?, Slot.m?, Slot.put, D.seqs, D.tyN, startD, List.replicate, Nat.reduceSub, Nat.reduceAdd, Nat.reduceLeDiff, wipeD, unw, freeAt, Slot.free, Nat.reduceEqDiff, id_eq, eq_self, qc, ↓DL.qtd, DL.qtu, ↓DL.qfd, DL.qfu,  z0, i3]
        exact q
    · rw [decide_eq_false h3]
      rw [if_neg (by simpa using h3)] at q
      simp -dsimp only [↓DL.qd, DL.qu, DL.qs, ↓DL.s_seq, mkD, D.key, dgetM, hide, hideS, Slot.fr?, Slot.m?, Slot.put, D.seqs, D.tyN, startD, List.replicate, Nat.reduceSub, Nat.reduceAdd, Nat.reduceLeDiff, wipeD, unw, freeAt, Slot.free, Nat.reduceEqDiff, id_eq, eq_self, qc, ↓DL.qtd, DL.qtu, ↓DL.qfd, DL.qfu]
      exact q
  · have z0 : atI [D.int (f : Int), D.int (s : Int)] 0 = some (.int (f : Int)) := rfl
    have z1 : atI [D.int (f : Int), D.int (s : Int)] 1 = some (.int (s : Int)) := rfl
    have l1 : decide ((⟨#[101]⟩ : Str) = Str.ofString "b") = false := by decide +kernel
    have l2 : decide ((⟨#[101]⟩ : Str) = Str.ofString "e") = true := by decide +kernel
    simp -dsimp only [↓DL.qd, DL.qu, DL.qs, ↓DL.s_seq, mkD, D.key, dgetM, hide, hideS, Slot.fr?, Slot.m?, Slot.put, D.seqs, D.tyN, startD, List.replicate, Nat.reduceSub, Nat.reduceAdd, Nat.reduceLeDiff, wipeD, unw, freeAt, Slot.free, Nat.reduceEqDiff, id_eq, eq_self, qc, ↓DL.qtd, DL.qtu, ↓DL.qfd, DL.qfu,  natD, o_eqS, l1, l2, y3]
    have hcan : can (eDeed v f s) [x0, x1, x2, x3] = (decide (x0 = (f : Int)) && (decide (x1 = (s : Int)) && !decide (x3 = 0))) := by
      show (has (1 * 2 ^ f) x0 && (has (1 * 2 ^ s) x1 && (has 6 x3 && true))) = _
      have h6 : has 6 x3 = !decide (x3 = 0) := by
        rcases (show x3 = 0 ∨ x3 = 1 ∨ x3 = 2 by omega) with rfl | rfl | rfl <;> decide
      rw [Bool.and_true, h6, show (1 * 2 ^ f : Int) = 1 * 2 ^ ((f : Nat) : Int).toNat from rfl, show (1 * 2 ^ s : Int) = 1 * 2 ^ ((s : Nat) : Int).toNat from rfl, has_one (by unfold sv; omega) (by unfold sv; omega), has_one (by unfold sv; omega) (by unfold sv; omega)]
    rw [hcan] at q
    by_cases h3 : x3 = 0
    · rw [decide_eq_true h3] at q ⊢
      rw [if_neg (by simp)] at q
      simp -dsimp only [↓DL.qd, DL.qu, DL.qs, ↓DL.s_seq, mkD, D.key, dgetM, hide, hideS, Slot.fr?, Slot.m?, Slot.put, D.seqs, D.tyN, startD, List.replicate, Nat.reduceSub, Nat.reduceAdd, Nat.reduceLeDiff, wipeD, unw, freeAt, Slot.free, Nat.reduceEqDiff, id_eq, eq_self, qc, ↓DL.qtd, DL.qtu, ↓DL.qfd, DL.qfu]
      exact q
    rw [decide_eq_false h3] at q ⊢
    simp -dsimp only [↓DL.qd, DL.qu, DL.qs, ↓DL.s_seq, mkD, D.key, dgetM, hide, hideS, Slot.fr?, Slot.m?, Slot.put, D.seqs, D.tyN, startD, List.replicate, Nat.reduceSub, Nat.reduceAdd, Nat.reduceLeDiff, wipeD, unw, freeAt, Slot.free, Nat.reduceEqDiff, id_eq, eq_self, qc, ↓DL.qtd, DL.qtu, ↓DL.qfd, DL.qfu,  natD, z0, z1]
    have ec2 : cutG [D.int x0, D.int x1, D.int x2, D.int x3] none (some 2) = [x0, x1].map D.int := DL.cut_to (k := 2)
    have em2 : [D.int (f : Int), D.int (s : Int)] = [(f : Int), (s : Int)].map D.int := rfl
    rw [ec2, em2]
    refine ⟨by decide, opz_of (Enc.int.tups.ne (by decide) [x0, x1] [(f : Int), (s : Int)] (fun _ _ => trivial) fun _ _ => trivial) ?_⟩
    by_cases hfs : x0 = (f : Int) ∧ x1 = (s : Int)
    · obtain ⟨rfl, rfl⟩ := hfs
      rw [decide_eq_true rfl]
      rw [if_pos (by simp)] at q
      have em : ((f : Int) + (s : Int)).fmod (v : Int) = (((f + s) % v : Nat) : Int) := by rw [Int.fmod_eq_emod_of_nonneg _ (by omega)]; push_cast; rfl
      simp -dsimp only [↓DL.qd, DL.qu, DL.qs, ↓DL.s_seq, mkD, D.key, dgetM, hide, hideS, Slot.fr?, Slot.m?, Slot.put, D.seqs, D.tyN, startD, List.replicate, Nat.reduceSub, Nat.reduceAdd, Nat.reduceLeDiff, wipeD, unw, freeAt, Slot.free, Nat.reduceEqDiff, id_eq, eq_self, qc, ↓DL.qtd, DL.qtu, ↓DL.qfd, DL.qfu,  y0, y1, em]
      exact ⟨by omega, by decide, q⟩
    · rw [decide_eq_false (fun c => hfs (by simpa using c))]
      rw [if_neg (by simp; exact fun a b => absurd ⟨a, b⟩ hfs)] at q
      simp -dsimp only [↓DL.qd, DL.qu, DL.qs, ↓DL.s_seq, mkD, D.key, dgetM, hide, hideS, Slot.fr?, Slot.m?, Slot.put, D.seqs, D.tyN, startD, List.replicate, Nat.reduceSub, Nat.reduceAdd, Nat.reduceLeDiff, wipeD, unw, freeAt, Slot.free, Nat.reduceEqDiff, id_eq, eq_self, qc, ↓DL.qtd, DL.qtu, ↓DL.qfd, DL.qfu]
      exact q
  · have z0 : atI [D.int (n : Int), D.int (o : Int), D.int (p : Int)] 0 = some (.int (n : Int)) := rfl
    have z1 : atI [D.int (n : Int), D.int (o : Int), D.int (p : Int)] 1 = some (.int (o : Int)) := rfl
    have z2 : atI [D.int (n : Int), D.int (o : Int), D.int (p : Int)] 2 = some (.int (p : Int)) := rfl
    have l1 : decide ((⟨#[114]⟩ : Str) = Str.ofString "b") = false := by decide +kernel
    have l2 : decide ((⟨#[114]⟩ : Str) = Str.ofString "e") = false := by decide +kernel
    obtain ⟨u, hu⟩ : ∃ u : Int, u = gi [x0, x1, x2, x3] (1 - n) := ⟨_, rfl⟩
    have hub : 0 ≤ u ∧ u < 16 := by
      rw [hu]
      rcases (show n = 0 ∨ n = 1 by omega) with rfl | rfl
      · show 0 ≤ x1 ∧ x1 < 16; omega
      · show 0 ≤ x0 ∧ x0 < 16; omega
    have hat : atI [D.int x0, D.int x1, D.int x2, D.int x3] ((1 : Int) - (n : Int)) = some (.int u) := by
      rw [hu]
      rcases (show n = 0 ∨ n = 1 by omega) with rfl | rfl <;> rfl
    have hcan : can (rDeed v n o p) [x0, x1, x2, x3] = (decide (u = (o : Int)) && (decide (x2 = (p : Int)) && decide (x3 = 0))) := by
      show (has (1 * 2 ^ o) (gi [x0, x1, x2, x3] (1 - n)) && (has (1 * 2 ^ p) x2 && (has 1 x3 && true))) = _
      have h13 : has 1 x3 = decide (x3 = 0) := has_one (u := 0) (by decide) (by unfold sv; omega)
      rw [← hu, Bool.and_true, h13, show (1 * 2 ^ o : Int) = 1 * 2 ^ ((o : Nat) : Int).toNat from rfl, show (1 * 2 ^ p : Int) = 1 * 2 ^ ((p : Nat) : Int).toNat from rfl, has_one (by unfold sv; omega) (by unfold sv; omega), has_one (by unfold sv; omega) (by unfold sv; omega)]
    rw [hcan] at q
    simp -dsimp only [↓DL.qd, DL.qu, DL.qs, ↓DL.s_seq, mkD, D.key, dgetM, hide, hideS, Slot.fr?, Slot.m?, Slot.put, D.seqs, D.tyN, startD, List.replicate, Nat.reduceSub, Nat.reduceAdd, Nat.reduceLeDiff, wipeD, unw, freeAt, Slot.free, Nat.reduceEqDiff, id_eq, eq_self, qc, ↓DL.qtd, DL.qtu, ↓DL.qfd, DL.qfu,  natD, o_eqS, l1, l2, y3]
    by_cases h3 : x3 = 0
    rotate_left
    · rw [decide_eq_false h3] at q ⊢
      rw [if_neg (by simp)] at q
      simp -dsimp only [↓DL.qd, DL.qu, DL.qs, ↓DL.s_seq, mkD, D.key, dgetM, hide, hideS, Slot.fr?, Slot.m?, Slot.put, D.seqs, D.tyN, startD, List.replicate, Nat.reduceSub, Nat.reduceAdd, Nat.reduceLeDiff, wipeD, unw, freeAt, Slot.free, Nat.reduceEqDiff, id_eq, eq_self, qc, ↓DL.qtd, DL.qtu, ↓DL.qfd, DL.qfu]
      exact q
    rw [decide_eq_true h3] at q ⊢
    simp -dsimp only [↓DL.qd, DL.qu, DL.qs, ↓DL.s_seq, mkD, D.key, dgetM, hide, hideS, Slot.fr?, Slot.m?, Slot.put, D.seqs, D.tyN, startD, List.replicate, Nat.reduceSub, Nat.reduceAdd, Nat.reduceLeDiff, wipeD, unw, freeAt, Slot.free, Nat.reduceEqDiff, id_eq, eq_self, qc, ↓DL.qtd, DL.qtu, ↓DL.qfd, DL.qfu,  natD, z0, z1, z2, hat]
    by_cases h1 : u = (o : Int)
    rotate_left
    · rw [decide_eq_false h1] at q ⊢
      rw [if_neg (by simp)] at q
      simp -dsimp only [↓DL.qd, DL.qu, DL.qs, ↓DL.s_seq, mkD, D.key, dgetM, hide, hideS, Slot.fr?, Slot.m?, Slot.put, D.seqs, D.tyN, startD, List.replicate, Nat.reduceSub, Nat.reduceAdd, Nat.reduceLeDiff, wipeD, unw, freeAt, Slot.free, Nat.reduceEqDiff, id_eq, eq_self, qc, ↓DL.qtd, DL.qtu, ↓DL.qfd, DL.qfu]
      exact q
    rw [decide_eq_true h1] at q ⊢
    simp -dsimp only [↓DL.qd, DL.qu, DL.qs, ↓DL.s_seq, mkD, D.key, dgetM, hide, hideS, Slot.fr?, Slot.m?, Slot.put, D.seqs, D.tyN, startD, List.replicate, Nat.reduceSub, Nat.reduceAdd, Nat.reduceLeDiff, wipeD, unw, freeAt, Slot.free, Nat.reduceEqDiff, id_eq, eq_self, qc, ↓DL.qtd, DL.qtu, ↓DL.qfd, DL.qfu,  natD, z0, z1, z2, y2, hat]
    by_cases h2 : x2 = (p : Int)
    rotate_left
    · rw [decide_eq_false h2] at q ⊢
      rw [if_neg (by simp)] at q
      simp -dsimp only [↓DL.qd, DL.qu, DL.qs, ↓DL.s_seq, mkD, D.key, dgetM, hide, hideS, Slot.fr?, Slot.m?, Slot.put, D.seqs, D.tyN, startD, List.replicate, Nat.reduceSub, Nat.reduceAdd, Nat.reduceLeDiff, wipeD, unw, freeAt, Slot.free, Nat.reduceEqDiff, id_eq, eq_self, qc, ↓DL.qtd, DL.qtu, ↓DL.qfd, DL.qfu]
      exact q
    rw [decide_eq_true h2] at q ⊢
    rw [if_pos (by simp)] at q
    have em : (x2 - u).fmod (v : Int) = (((p + v - o) % v : Nat) : Int) := by
      rw [h2, h1, Int.fmod_eq_emod_of_nonneg _ (by omega), Int.natCast_emod, show ((p + v - o : Nat) : Int) = (p : Int) - o + v by omega, Int.add_emod_right]
    simp -dsimp only [↓DL.qd, DL.qu, DL.qs, ↓DL.s_seq, mkD, D.key, dgetM, hide, hideS, Slot.fr?, Slot.m?, Slot.put, D.seqs, D.tyN, startD, List.replicate, Nat.reduceSub, Nat.reduceAdd, Nat.reduceLeDiff, wipeD, unw, freeAt, Slot.free, Nat.reduceEqDiff, id_eq, eq_self, qc, ↓DL.qtd, DL.qtu, ↓DL.qfd, DL.qfu,  natD, z0, y2, hat, em]
    refine ⟨by omega, ?_⟩
    rcases (show n = 0 ∨ n = 1 by omega) with rfl | rfl
    · rw [show ixN 4 ((0 : Nat) : Int) = some 0 from rfl]
      simp -dsimp only [↓DL.qd, DL.qu, DL.qs, ↓DL.s_seq, mkD, D.key, dgetM, hide, hideS, Slot.fr?, Slot.m?, Slot.put, D.seqs, D.tyN, startD, List.replicate, Nat.reduceSub, Nat.reduceAdd, Nat.reduceLeDiff, wipeD, unw, freeAt, Slot.free, Nat.reduceEqDiff, id_eq, eq_self, qc, ↓DL.qtd, DL.qtu, ↓DL.qfd, DL.qfu]
      rw [em]
      exact q
    · rw [show ixN 4 ((1 : Nat) : Int) = some 1 from rfl]
      simp -dsimp only [↓DL.qd, DL.qu, DL.qs, ↓DL.s_seq, mkD, D.key, dgetM, hide, hideS, Slot.fr?, Slot.m?, Slot.put, D.seqs, D.tyN, startD, List.replicate, Nat.reduceSub, Nat.reduceAdd, Nat.reduceLeDiff, wipeD, unw, freeAt, Slot.free, Nat.reduceEqDiff, id_eq, eq_self, qc, ↓DL.qtd, DL.qtu, ↓DL.qfd, DL.qfu]
      rw [em]
      exact q
end
end K45
namespace K45
open PySem PySem.Spec L2 DL Msk Tel
section
variable {P : Program} {w : World} {K : PySem.W.Frag} {mg : Str → Option Value} {base : Heap} {TB : List (Addr × Str)} {C_WreckError C_InvalidMachine C_InvalidDisk C_InvalidSketch C_NoSuchDeed C_CannotDo C_InvalidForm C_InvalidFile C_NoRoom C_Machine C_StripeForm : Addr}
def nmD (d : Deed) : D := .str d.nm
def numS (n : Nat) : Str := if n = 0 then Str.ofString "0" else Str.ofString "1"
theorem nb_eq : ∀ (n : _root_.Fin 2) (x : _root_.Fin 6), Str.ofString "b" ++ numS n.val ++ Str.ofString (toString (x.val : Int)) = (bDeed n.val x.val).nm := by decide +kernel
theorem ne_eq : ∀ n x : _root_.Fin 6, Str.ofString "e" ++ Str.ofString (toString (n.val : Int)) ++ Str.ofString (toString (x.val : Int)) = nmOf "e" [n.val, x.val] := by decide +kernel
theorem nr_eq : ∀ (n : _root_.Fin 2) (x y : _root_.Fin 6), Str.ofString "r" ++ numS n.val ++ Str.ofString (toString (x.val : Int)) ++ Str.ofString (toString (y.val : Int)) = nmOf "r" [n.val, x.val, y.val] := by decide +kernel
theorem b_len : ∀ (n : _root_.Fin 2) (x : _root_.Fin 6), (Str.ofString "b").length + (numS n.val).length ≤ sizeLine ∧ (Str.ofString "b" ++ numS n.val).length + (Str.ofString (toString (x.val : Int))).length ≤ sizeLine := by decide +kernel
theorem e_len : ∀ n x : _root_.Fin 6, (Str.ofString "e").length + (Str.ofString (toString (n.val : Int))).length ≤ sizeLine ∧ (Str.ofString "e" ++ Str.ofString (toString (n.val : Int))).length + (Str.ofString (toString (x.val : Int))).length ≤ sizeLine := by decide +kernel
theorem r_len : ∀ (n : _root_.Fin 2) (x y : _root_.Fin 6), (Str.ofString "r").length + (numS n.val).length ≤ sizeLine ∧ (Str.ofString "r" ++ numS n.val).length + (Str.ofString (toString (x.val : Int))).length ≤ sizeLine ∧ (Str.ofString "r" ++ numS n.val ++ Str.ofString (toString (x.val : Int))).length + (Str.ofString (toString (y.val : Int))).length ≤ sizeLine := by decide +kernel
def c__law_names : CT
  | [.fz (.int vv)], R, _ => ∃ v : Nat, vv = (v : Int) ∧ (2 ≤ v ∧ v ≤ 5) ∧ ∀ m : DL.M, m.frz = .lst ((SM v).ds.map nmD) → R m []
  | _, _, _ => False
theorem sc__law_names : FnScope N__law_names ["values"] (defScope s__law_names) := ⟨rfl, rfl, rfl, by decide +kernel, rfl, by decide +kernel, by decide +kernel⟩
theorem ok__law_names (T : Txt K mg P w C_WreckError C_InvalidMachine C_InvalidDisk C_InvalidSketch C_NoSuchDeed C_CannotDo C_InvalidForm C_InvalidFile C_NoRoom C_Machine C_StripeForm) (F : TopFn K mg "_law_names" s__law_names ["values"]) : FnAt P w K mg base TB 1 "_law_names" ["values"] false c__law_names := by
  have nd := sc__law_names.nd
  refine fnAt F sc__law_names (fun ms R X h => by unfold c__law_names at h; split at h <;> first | rfl | exact h.elim) (fun h => by cases h) fun f cdv A outer s H E x0 Xd hr => ?_
  refine ⟨_, _, (dss_cons (ds_set (i := 1) nd rfl (by first | exact Or.inl rfl | exact Or.inr rfl) (de_lst da_nil))
      (dss_cons (ds_for passD rfl (di_any rfl (de_tup (da_cons de_str (da_cons de_str da_nil)))) (dg_name (i := 2) nd rfl (by first | exact Or.inl rfl | exact Or.inr rfl))
      (dss_one (ds_set (i := 1) nd rfl (by first | exact Or.inl rfl | exact Or.inr rfl) (de_op (op_addA rfl) od_add (dv 1) (de_lc (own := [("value", 5)]) rfl nd (di_rng1 (by rfl) T.n_range (da_cons (dv 0) da_nil)) (blkOk_by (N := N__law_names) (sc := defScope s__law_names) (by decide +kernel)) (GOnly.name (by decide)) GMono.name (fun _ _ _ _ _ => (dg_name (i := 5) nd rfl (by first | exact Or.inl rfl | exact Or.inr rfl))) (fun _ _ _ _ _ => dts_nil) (fun _ _ _ _ _ => (de_op (op_addA rfl) od_add (de_op (op_addA rfl) od_add de_str (dv 2)) (de_callTy call_str_int cd_str (by rfl) T.n_str bo_str (da_cons (dv 5) da_nil)))))))))
      (dss_cons (ds_for passD rfl (di_rng1 (by rfl) T.n_range (da_cons (dv 0) da_nil)) (dg_name (i := 3) nd rfl (by first | exact Or.inl rfl | exact Or.inr rfl))
      (dss_one (ds_set (i := 1) nd rfl (by first | exact Or.inl rfl | exact Or.inr rfl) (de_op (op_addA rfl) od_add (dv 1) (de_lc (own := [("second", 6)]) rfl nd (di_rng1 (by rfl) T.n_range (da_cons (dv 0) da_nil)) (blkOk_by (N := N__law_names) (sc := defScope s__law_names) (by decide +kernel)) (GOnly.name (by decide)) GMono.name (fun _ _ _ _ _ => (dg_name (i := 6) nd rfl (by first | exact Or.inl rfl | exact Or.inr rfl))) (fun _ _ _ _ _ => dts_nil) (fun _ _ _ _ _ => (de_op (op_addA rfl) od_add (de_op (op_addA rfl) od_add de_str (de_callTy call_str_int cd_str (by rfl) T.n_str bo_str (da_cons (dv 3) da_nil))) (de_callTy call_str_int cd_str (by rfl) T.n_str bo_str (da_cons (dv 6) da_nil)))))))))
      (dss_cons (ds_for passD rfl (di_any rfl (de_tup (da_cons de_str (da_cons de_str da_nil)))) (dg_name (i := 2) nd rfl (by first | exact Or.inl rfl | exact Or.inr rfl))
      (dss_one (ds_for passD rfl (di_rng1 (by rfl) T.n_range (da_cons (dv 0) da_nil)) (dg_name (i := 4) nd rfl (by first | exact Or.inl rfl | exact Or.inr rfl))
      (dss_one (ds_set (i := 1) nd rfl (by first | exact Or.inl rfl | exact Or.inr rfl) (de_op (op_addA rfl) od_add (dv 1) (de_lc (own := [("parity", 7)]) rfl nd (di_rng1 (by rfl) T.n_range (da_cons (dv 0) da_nil)) (blkOk_by (N := N__law_names) (sc := defScope s__law_names) (by decide +kernel)) (GOnly.name (by decide)) GMono.name (fun _ _ _ _ _ => (dg_name (i := 7) nd rfl (by first | exact Or.inl rfl | exact Or.inr rfl))) (fun _ _ _ _ _ => dts_nil) (fun _ _ _ _ _ => (de_op (op_addA rfl) od_add (de_op (op_addA rfl) od_add (de_op (op_addA rfl) od_add de_str (dv 2)) (de_callTy call_str_int cd_str (by rfl) T.n_str bo_str (da_cons (dv 4) da_nil))) (de_callTy call_str_int cd_str (by rfl) T.n_str bo_str (da_cons (dv 7) da_nil)))))))))))
      (dss_one (ds_ret (dv 1))))))), ?_⟩
  intro ms Rd h
  unfold c__law_names at h
  split at h <;> first | exact (show False from h).elim | skip
  rename_i vv
  obtain ⟨v, rfl, hv, q⟩ := h
  have v3 : 2 ≤ v ∧ v ≤ 5 := by omega
  simp -dsimp only [↓DL.qd, DL.qu, DL.qs, ↓DL.s_seq, mkD, D.key, dgetM, hide, hideS, Slot.fr?, Slot.m?, Slot.put, D.seqs, D.tyN, startD, List.replicate, Nat.reduceSub, Nat.reduceAdd, Nat.reduceLeDiff, wipeD, unw, freeAt, Slot.free, Nat.reduceEqDiff, id_eq, eq_self, qc, ↓DL.qtd, DL.qtu, ↓DL.qfd, DL.qfu]
  have vk : ∀ n : Nat, n * v ≤ n * 5 := fun n => Nat.mul_le_mul_left n v3.2
  refine ⟨by decide, by decide, for_ofE (xs := [0, 1]) (emb := fun n => D.str (numS n)) (fun i s => ∃ a : DL.Slot, s = [.v (.fz (.int (v : Int))), .v (.ml (((List.range i).flatMap fun n => (List.range v).map fun x => bDeed n x).map nmD)), a, .un, .un, .un, .un, .un] ∧ a.free = true) ⟨.un, rfl, rfl⟩ ?_ ?_⟩
  · rintro i n s hn ⟨a, rfl, ha⟩ N B R hN - -
    obtain ⟨hi, rfl⟩ : i < 2 ∧ n = i := by
      match i, hn with
      | 0, hn => exact ⟨by decide, by simpa using hn.symm⟩
      | 1, hn => exact ⟨by decide, by simpa using hn.symm⟩
      | k + 2, hn => simp at hn
    have hl := flat_len (g := fun n x => bDeed n x) (v := v) n
    simp -dsimp only [↓DL.qd, DL.qu, DL.qs, ↓DL.s_seq, mkD, D.key, dgetM, hide, hideS, Slot.fr?, Slot.m?, Slot.put, D.seqs, D.tyN, startD, List.replicate, Nat.reduceSub, Nat.reduceAdd, Nat.reduceLeDiff, wipeD, unw, freeAt, Slot.free, Nat.reduceEqDiff, id_eq, eq_self, qc, ↓DL.qtd, DL.qtu, ↓DL.qfd, DL.qfu,  gset_free (free_pin ha)]
    rw [Int.toNat_natCast, rng_isq]
    refine ⟨by omega, by omega, lcR_mapE (emb := D.int) (Eq _) (fun x => nmD (bDeed n x.toNat)) (by rw [isq_len]; unfold sizeLine; omega) rfl ?_ ?_⟩
    · rintro x hx s rfl R hR
      have hx := isq_mem.mp hx
      obtain ⟨x, rfl⟩ : ∃ k : Nat, x = (k : Int) := ⟨x.toNat, by omega⟩
      have g1 := lg ⟨x, by omega⟩
      have e1 := nb_eq ⟨n, hi⟩ ⟨x, by omega⟩
      have l1 := b_len ⟨n, hi⟩ ⟨x, by omega⟩
      simp only at g1 e1 l1
      simp -dsimp only [↓DL.qd, DL.qu, DL.qs, ↓DL.s_seq, mkD, D.key, dgetM, hide, hideS, Slot.fr?, Slot.m?, Slot.put, D.seqs, D.tyN, startD, List.replicate, Nat.reduceSub, Nat.reduceAdd, Nat.reduceLeDiff, wipeD, unw, freeAt, Slot.free, Nat.reduceEqDiff, id_eq, eq_self, qc, ↓DL.qtd, DL.qtu, ↓DL.qfd, DL.qfu]
      exact ⟨l1.1, g1, l1.2, hR _ _ (by show D.str _ = D.str _; rw [e1]; rfl) rfl⟩
    rintro s' rfl
    rw [isq0]
    simp -dsimp only [↓DL.qd, DL.qu, DL.qs, ↓DL.s_seq, mkD, D.key, dgetM, hide, hideS, Slot.fr?, Slot.m?, Slot.put, D.seqs, D.tyN, startD, List.replicate, Nat.reduceSub, Nat.reduceAdd, Nat.reduceLeDiff, wipeD, unw, freeAt, Slot.free, Nat.reduceEqDiff, id_eq, eq_self, qc, ↓DL.qtd, DL.qtu, ↓DL.qfd, DL.qfu,  List.length_map]
    refine ⟨by rw [hl, List.length_range]; have := vk n; unfold sizeLine; omega, hN _ ⟨.v (.fz (.str (numS n))), ?_, rfl⟩⟩
    rw [flatS, List.map_append, List.map_map]
    rfl
  rintro s ⟨a, rfl, ha⟩
  have hbl : (bDs v).length ≤ 10 := by have := flat_len (g := fun n x => bDeed n x) (v := v) 2; have := vk 2; unfold bDs; omega
  simp -dsimp only [↓DL.qd, DL.qu, DL.qs, ↓DL.s_seq, mkD, D.key, dgetM, hide, hideS, Slot.fr?, Slot.m?, Slot.put, D.seqs, D.tyN, startD, List.replicate, Nat.reduceSub, Nat.reduceAdd, Nat.reduceLeDiff, wipeD, unw, freeAt, Slot.free, Nat.reduceEqDiff, id_eq, eq_self, qc, ↓DL.qtd, DL.qtu, ↓DL.qfd, DL.qfu]
  rw [Int.toNat_natCast]
  refine ⟨by omega, by omega, for_rng (fun i s => ∃ b : DL.Slot, s = [.v (.fz (.int (v : Int))), .v (.ml ((bDs v ++ (List.range i).flatMap fun n => (List.range v).map fun x => eDeed v n x).map nmD)), a, b, .un, .un, .un, .un] ∧ b.free = true) ⟨.un, by simp; rfl, rfl⟩ ?_ ?_⟩
  · rintro n s hn ⟨b, rfl, hb⟩ N B R hN - -
    rw [Int.zero_add]
    have hl := flat_len (g := fun n x => eDeed v n x) (v := v) n
    simp -dsimp only [↓DL.qd, DL.qu, DL.qs, ↓DL.s_seq, mkD, D.key, dgetM, hide, hideS, Slot.fr?, Slot.m?, Slot.put, D.seqs, D.tyN, startD, List.replicate, Nat.reduceSub, Nat.reduceAdd, Nat.reduceLeDiff, wipeD, unw, freeAt, Slot.free, Nat.reduceEqDiff, id_eq, eq_self, qc, ↓DL.qtd, DL.qtu, ↓DL.qfd, DL.qfu,  gset_free (free_pin hb)]
    rw [Int.toNat_natCast, rng_isq]
    refine ⟨by omega, by omega, lcR_mapE (emb := D.int) (Eq _) (fun x => nmD (eDeed v n x.toNat)) (by rw [isq_len]; unfold sizeLine; omega) rfl ?_ ?_⟩
    · rintro x hx s rfl R hR
      have hx := isq_mem.mp hx
      obtain ⟨x, rfl⟩ : ∃ k : Nat, x = (k : Int) := ⟨x.toNat, by omega⟩
      have g0 := lg ⟨n, by omega⟩
      have g1 := lg ⟨x, by omega⟩
      have e1 := ne_eq ⟨n, by omega⟩ ⟨x, by omega⟩
      have l1 := e_len ⟨n, by omega⟩ ⟨x, by omega⟩
      simp only at g0 g1 e1 l1
      simp -dsimp only [↓DL.qd, DL.qu, DL.qs, ↓DL.s_seq, mkD, D.key, dgetM, hide, hideS, Slot.fr?, Slot.m?, Slot.put, D.seqs, D.tyN, startD, List.replicate, Nat.reduceSub, Nat.reduceAdd, Nat.reduceLeDiff, wipeD, unw, freeAt, Slot.free, Nat.reduceEqDiff, id_eq, eq_self, qc, ↓DL.qtd, DL.qtu, ↓DL.qfd, DL.qfu]
      exact ⟨g0, l1.1, g1, l1.2, hR _ _ (by show D.str _ = D.str _; rw [e1]; rfl) rfl⟩
    rintro s' rfl
    rw [isq0]
    simp -dsimp only [↓DL.qd, DL.qu, DL.qs, ↓DL.s_seq, mkD, D.key, dgetM, hide, hideS, Slot.fr?, Slot.m?, Slot.put, D.seqs, D.tyN, startD, List.replicate, Nat.reduceSub, Nat.reduceAdd, Nat.reduceLeDiff, wipeD, unw, freeAt, Slot.free, Nat.reduceEqDiff, id_eq, eq_self, qc, ↓DL.qtd, DL.qtu, ↓DL.qfd, DL.qfu,  List.length_map]
    refine ⟨by rw [List.length_append, hl, List.length_range]; have := vk n; unfold sizeLine; omega, hN _ ⟨.v (.fz (.int (n : Int))), ?_, rfl⟩⟩
    rw [flatS, ← List.append_assoc, List.map_append (l₂ := (List.range v).map fun x => eDeed v n x), List.map_map]
    rfl
  rintro s ⟨b, rfl, hb⟩
  have hel : (eDs v).length ≤ 25 := by have := flat_len (g := fun n x => eDeed v n x) (v := v) v; have := vk v; unfold eDs; omega
  rw [show ((List.range v).flatMap fun n => (List.range v).map fun x => eDeed v n x) = eDs v from rfl]
  obtain ⟨BE, hBE⟩ : ∃ BE, BE = bDs v ++ eDs v := ⟨_, rfl⟩
  have hBl : BE.length ≤ 35 := by rw [hBE, List.length_append]; omega
  rw [← hBE]
  simp -dsimp only [↓DL.qd, DL.qu, DL.qs, ↓DL.s_seq, mkD, D.key, dgetM, hide, hideS, Slot.fr?, Slot.m?, Slot.put, D.seqs, D.tyN, startD, List.replicate, Nat.reduceSub, Nat.reduceAdd, Nat.reduceLeDiff, wipeD, unw, freeAt, Slot.free, Nat.reduceEqDiff, id_eq, eq_self, qc, ↓DL.qtd, DL.qtu, ↓DL.qfd, DL.qfu]
  refine ⟨by decide, for_ofE (xs := [0, 1]) (emb := fun n => D.str (numS n)) (fun i s => ∃ a c : DL.Slot, s = [.v (.fz (.int (v : Int))), .v (.ml ((BE ++ (List.range i).flatMap fun n => (List.range v).flatMap fun o => (List.range v).map fun p => rDeed v n o p).map nmD)), a, b, c, .un, .un, .un] ∧ a.free = true ∧ c.free = true) ⟨a, .un, by simp, ha, rfl⟩ ?_ ?_⟩
  · clear ha
    rintro i n s hn ⟨a, c, rfl, ha, hc⟩ N B R hN - -
    obtain ⟨hi, rfl⟩ : i < 2 ∧ n = i := by
      match i, hn with
      | 0, hn => exact ⟨by decide, by simpa using hn.symm⟩
      | 1, hn => exact ⟨by decide, by simpa using hn.symm⟩
      | k + 2, hn => simp at hn
    have hl0 : (BE ++ (List.range n).flatMap fun n => (List.range v).flatMap fun o => (List.range v).map fun p => rDeed v n o p).length ≤ 60 := by
      have := flat_len (g := fun o p => rDeed v 0 o p) (v := v) v
      have := vk v
      rw [List.length_append]
      rcases (show n = 0 ∨ n = 1 by omega) with rfl | rfl
      · simp; omega
      · rw [flatS]
        simp only [List.range_zero, List.flatMap_nil, List.nil_append]
        omega
    obtain ⟨G, hG⟩ : ∃ G, G = BE ++ (List.range n).flatMap fun n => (List.range v).flatMap fun o => (List.range v).map fun p => rDeed v n o p := ⟨_, rfl⟩
    rw [← hG] at hl0 ⊢
    simp -dsimp only [↓DL.qd, DL.qu, DL.qs, ↓DL.s_seq, mkD, D.key, dgetM, hide, hideS, Slot.fr?, Slot.m?, Slot.put, D.seqs, D.tyN, startD, List.replicate, Nat.reduceSub, Nat.reduceAdd, Nat.reduceLeDiff, wipeD, unw, freeAt, Slot.free, Nat.reduceEqDiff, id_eq, eq_self, qc, ↓DL.qtd, DL.qtu, ↓DL.qfd, DL.qfu,  gset_free (free_pin ha)]
    rw [Int.toNat_natCast]
    refine ⟨by omega, by omega, for_rng (fun k s => ∃ c : DL.Slot, s = [.v (.fz (.int (v : Int))), .v (.ml ((G ++ (List.range k).flatMap fun o => (List.range v).map fun p => rDeed v n o p).map nmD)), .v (.fz (.str (numS n))), b, c, .un, .un, .un] ∧ c.free = true) ⟨c, by simp, hc⟩ ?_ ?_⟩
    · clear hc
      rintro k s hk ⟨c, rfl, hc⟩ N2 B R hN2 - -
      rw [Int.zero_add]
      have hl := flat_len (g := fun o p => rDeed v n o p) (v := v) k
      simp -dsimp only [↓DL.qd, DL.qu, DL.qs, ↓DL.s_seq, mkD, D.key, dgetM, hide, hideS, Slot.fr?, Slot.m?, Slot.put, D.seqs, D.tyN, startD, List.replicate, Nat.reduceSub, Nat.reduceAdd, Nat.reduceLeDiff, wipeD, unw, freeAt, Slot.free, Nat.reduceEqDiff, id_eq, eq_self, qc, ↓DL.qtd, DL.qtu, ↓DL.qfd, DL.qfu,  gset_free (free_pin hc)]
      rw [Int.toNat_natCast, rng_isq]
      refine ⟨by omega, by omega, lcR_mapE (emb := D.int) (Eq _) (fun x => nmD (rDeed v n k x.toNat)) (by rw [isq_len]; unfold sizeLine; omega) rfl ?_ ?_⟩
      · rintro x hx s rfl R hR
        have hx := isq_mem.mp hx
        obtain ⟨x, rfl⟩ : ∃ k : Nat, x = (k : Int) := ⟨x.toNat, by omega⟩
        have g0 := lg ⟨k, by omega⟩
        have g1 := lg ⟨x, by omega⟩
        have e1 := nr_eq ⟨n, hi⟩ ⟨k, by omega⟩ ⟨x, by omega⟩
        have l1 := r_len ⟨n, hi⟩ ⟨k, by omega⟩ ⟨x, by omega⟩
        simp only at g0 g1 e1 l1
        simp -dsimp only [↓DL.qd, DL.qu, DL.qs, ↓DL.s_seq, mkD, D.key, dgetM, hide, hideS, Slot.fr?, Slot.m?, Slot.put, D.seqs, D.tyN, startD, List.replicate, Nat.reduceSub, Nat.reduceAdd, Nat.reduceLeDiff, wipeD, unw, freeAt, Slot.free, Nat.reduceEqDiff, id_eq, eq_self, qc, ↓DL.qtd, DL.qtu, ↓DL.qfd, DL.qfu]
        exact ⟨l1.1, g0, l1.2.1, g1, l1.2.2, hR _ _ (by show D.str _ = D.str _; rw [e1]; rfl) rfl⟩
      rintro s' rfl
      rw [isq0]
      simp -dsimp only [↓DL.qd, DL.qu, DL.qs, ↓DL.s_seq, mkD, D.key, dgetM, hide, hideS, Slot.fr?, Slot.m?, Slot.put, D.seqs, D.tyN, startD, List.replicate, Nat.reduceSub, Nat.reduceAdd, Nat.reduceLeDiff, wipeD, unw, freeAt, Slot.free, Nat.reduceEqDiff, id_eq, eq_self, qc, ↓DL.qtd, DL.qtu, ↓DL.qfd, DL.qfu,  List.length_map]
      refine ⟨by rw [List.length_append, hl, List.length_range]; have := vk k; unfold sizeLine; omega, hN2 _ ⟨.v (.fz (.int (k : Int))), ?_, rfl⟩⟩
      rw [flatS, ← List.append_assoc, List.map_append (l₂ := (List.range v).map fun x => rDeed v n k x), List.map_map]
      rfl
    rintro s ⟨c, rfl, hc⟩
    refine hN _ ⟨.v (.fz (.str (numS n))), c, ?_, rfl, hc⟩
    rw [hG, flatS, List.append_assoc]
  rintro s ⟨a, c, rfl, ha, hc⟩
  simp -dsimp only [↓DL.qd, DL.qu, DL.qs, ↓DL.s_seq, mkD, D.key, dgetM, hide, hideS, Slot.fr?, Slot.m?, Slot.put, D.seqs, D.tyN, startD, List.replicate, Nat.reduceSub, Nat.reduceAdd, Nat.reduceLeDiff, wipeD, unw, freeAt, Slot.free, Nat.reduceEqDiff, id_eq, eq_self, qc, ↓DL.qtd, DL.qtu, ↓DL.qfd, DL.qfu]
  refine q _ ?_
  show D.lst ((BE ++ rDs v).map nmD) = _
  rw [hBE]
  rfl
def c_check_value (C_InvalidFile C_StripeForm : Addr) : CT
  | [.fz f, .fz (.int n)], R, X => ∃ v : Nat, f = formD C_StripeForm v ∧ (0 ≤ n ∧ n < v → R (.fz .non) []) ∧ (n < 0 ∨ (v : Int) ≤ n → X (.ref C_InvalidFile) none [])
  | _, _, _ => False
theorem sc_check_value : FnScope N_check_value ["form", "value"] (defScope s_check_value) := ⟨rfl, rfl, rfl, by decide +kernel, rfl, by decide +kernel, by decide +kernel⟩
theorem ok_check_value (T : Txt K mg P w C_WreckError C_InvalidMachine C_InvalidDisk C_InvalidSketch C_NoSuchDeed C_CannotDo C_InvalidForm C_InvalidFile C_NoRoom C_Machine C_StripeForm) (F : TopFn K mg "check_value" s_check_value ["form", "value"]) : FnAt P w K mg base TB 1 "check_value" ["form", "value"] false (c_check_value C_InvalidFile C_StripeForm) := by
  have nd := sc_check_value.nd
  refine fnAt F sc_check_value (fun ms R X h => by unfold c_check_value at h; split at h <;> first | rfl | exact h.elim) (fun h => by cases h) fun f cdv A outer s H E x0 Xd hr => ?_
  refine ⟨_, _, (dss_one (ds_if (DW.pt (dw_or (dt_cmp op_lt od_lt (dv 1) de_int (nomark _)) (dw_or1 (dt_cmp op_ge od_ge (dv 1) (de_attr (f := "alphabet") (fun C => C = C_StripeForm) rfl T.at_alphabet (dv 0)) (nomark _)))))
      (dss_one (ds_raiseC T.x_InvalidFile rfl takesD rfl))
      dss_nil)), ?_⟩
  intro ms Rd h
  unfold c_check_value at h
  split at h <;> first | exact (show False from h).elim | skip
  rename_i f n
  obtain ⟨v, rfl, q1, q2⟩ := h
  have eF : formD C_StripeForm v = .obj C_StripeForm [("alphabet", .int (v : Int))] := rfl
  simp -dsimp only [↓DL.qd, DL.qu, DL.qs, ↓DL.s_seq, mkD, D.key, dgetM, hide, hideS, Slot.fr?, Slot.m?, Slot.put, D.seqs, D.tyN, startD, List.replicate, Nat.reduceSub, Nat.reduceAdd, Nat.reduceLeDiff, wipeD, unw, freeAt, Slot.free, Nat.reduceEqDiff, id_eq, eq_self, qc, ↓DL.qtd, DL.qtu, ↓DL.qfd, DL.qfu,  eF]
  refine br_dec (fun c => ?_) (fun c => ?_)
  · simp -dsimp only [↓DL.qd, DL.qu, DL.qs, ↓DL.s_seq, mkD, D.key, dgetM, hide, hideS, Slot.fr?, Slot.m?, Slot.put, D.seqs, D.tyN, startD, List.replicate, Nat.reduceSub, Nat.reduceAdd, Nat.reduceLeDiff, wipeD, unw, freeAt, Slot.free, Nat.reduceEqDiff, id_eq, eq_self, qc, ↓DL.qtd, DL.qtu, ↓DL.qfd, DL.qfu]
    exact q2 (.inl c)
  simp -dsimp only [↓DL.qd, DL.qu, DL.qs, ↓DL.s_seq, mkD, D.key, dgetM, hide, hideS, Slot.fr?, Slot.m?, Slot.put, D.seqs, D.tyN, startD, List.replicate, Nat.reduceSub, Nat.reduceAdd, Nat.reduceLeDiff, wipeD, unw, freeAt, Slot.free, Nat.reduceEqDiff, id_eq, eq_self, qc, ↓DL.qtd, DL.qtu, ↓DL.qfd, DL.qfu,  eF]
  refine br_dec (fun c2 => ?_) (fun c2 => ?_)
  · simp -dsimp only [↓DL.qd, DL.qu, DL.qs, ↓DL.s_seq, mkD, D.key, dgetM, hide, hideS, Slot.fr?, Slot.m?, Slot.put, D.seqs, D.tyN, startD, List.replicate, Nat.reduceSub, Nat.reduceAdd, Nat.reduceLeDiff, wipeD, unw, freeAt, Slot.free, Nat.reduceEqDiff, id_eq, eq_self, qc, ↓DL.qtd, DL.qtu, ↓DL.qfd, DL.qfu]
    exact q2 (.inr (by omega))
  simp -dsimp only [↓DL.qd, DL.qu, DL.qs, ↓DL.s_seq, mkD, D.key, dgetM, hide, hideS, Slot.fr?, Slot.m?, Slot.put, D.seqs, D.tyN, startD, List.replicate, Nat.reduceSub, Nat.reduceAdd, Nat.reduceLeDiff, wipeD, unw, freeAt, Slot.free, Nat.reduceEqDiff, id_eq, eq_self, qc, ↓DL.qtd, DL.qtu, ↓DL.qfd, DL.qfu]
  exact q1 ⟨by omega, by omega⟩
def c__check_number (C_InvalidFile : Addr) : CT
  | [.fz (.int n)], R, X => (0 ≤ n ∧ n ≤ 1 → R (.fz .non) []) ∧ (n < 0 ∨ 1 < n → X (.ref C_InvalidFile) none [])
  | _, _, _ => False
theorem sc__check_number : FnScope N__check_number ["number"] (defScope s__check_number) := ⟨rfl, rfl, rfl, by decide +kernel, rfl, by decide +kernel, by decide +kernel⟩
theorem ok__check_number (T : Txt K mg P w C_WreckError C_InvalidMachine C_InvalidDisk C_InvalidSketch C_NoSuchDeed C_CannotDo C_InvalidForm C_InvalidFile C_NoRoom C_Machine C_StripeForm) (F : TopFn K mg "_check_number" s__check_number ["number"]) : FnAt P w K mg base TB 1 "_check_number" ["number"] false (c__check_number C_InvalidFile) := by
  have nd := sc__check_number.nd
  refine fnAt F sc__check_number (fun ms R X h => by unfold c__check_number at h; split at h <;> first | rfl | exact h.elim) (fun h => by cases h) fun f cdv A outer s H E x0 Xd hr => ?_
  refine ⟨_, _, (dss_one (ds_if (DW.pt (dw_or (dt_cmp op_lt od_lt (dv 0) de_int (nomark _)) (dw_or1 (dt_cmp op_gt od_gt (dv 0) de_int (nomark _)))))
      (dss_one (ds_raiseC T.x_InvalidFile rfl takesD rfl))
      dss_nil)), ?_⟩
  intro ms Rd h
  unfold c__check_number at h
  split at h <;> first | exact (show False from h).elim | skip
  rename_i n
  obtain ⟨q1, q2⟩ := h
  simp -dsimp only [↓DL.qd, DL.qu, DL.qs, ↓DL.s_seq, mkD, D.key, dgetM, hide, hideS, Slot.fr?, Slot.m?, Slot.put, D.seqs, D.tyN, startD, List.replicate, Nat.reduceSub, Nat.reduceAdd, Nat.reduceLeDiff, wipeD, unw, freeAt, Slot.free, Nat.reduceEqDiff, id_eq, eq_self, qc, ↓DL.qtd, DL.qtu, ↓DL.qfd, DL.qfu]
  refine br_dec (fun c => ?_) (fun c => ?_)
  · simp -dsimp only [↓DL.qd, DL.qu, DL.qs, ↓DL.s_seq, mkD, D.key, dgetM, hide, hideS, Slot.fr?, Slot.m?, Slot.put, D.seqs, D.tyN, startD, List.replicate, Nat.reduceSub, Nat.reduceAdd, Nat.reduceLeDiff, wipeD, unw, freeAt, Slot.free, Nat.reduceEqDiff, id_eq, eq_self, qc, ↓DL.qtd, DL.qtu, ↓DL.qfd, DL.qfu]
    exact q2 (.inl c)
  simp -dsimp only [↓DL.qd, DL.qu, DL.qs, ↓DL.s_seq, mkD, D.key, dgetM, hide, hideS, Slot.fr?, Slot.m?, Slot.put, D.seqs, D.tyN, startD, List.replicate, Nat.reduceSub, Nat.reduceAdd, Nat.reduceLeDiff, wipeD, unw, freeAt, Slot.free, Nat.reduceEqDiff, id_eq, eq_self, qc, ↓DL.qtd, DL.qtu, ↓DL.qfd, DL.qfu]
  refine br_dec (fun c2 => ?_) (fun c2 => ?_)
  · simp -dsimp only [↓DL.qd, DL.qu, DL.qs, ↓DL.s_seq, mkD, D.key, dgetM, hide, hideS, Slot.fr?, Slot.m?, Slot.put, D.seqs, D.tyN, startD, List.replicate, Nat.reduceSub, Nat.reduceAdd, Nat.reduceLeDiff, wipeD, unw, freeAt, Slot.free, Nat.reduceEqDiff, id_eq, eq_self, qc, ↓DL.qtd, DL.qtu, ↓DL.qfd, DL.qfu]
    exact q2 (.inr (by omega))
  simp -dsimp only [↓DL.qd, DL.qu, DL.qs, ↓DL.s_seq, mkD, D.key, dgetM, hide, hideS, Slot.fr?, Slot.m?, Slot.put, D.seqs, D.tyN, startD, List.replicate, Nat.reduceSub, Nat.reduceAdd, Nat.reduceLeDiff, wipeD, unw, freeAt, Slot.free, Nat.reduceEqDiff, id_eq, eq_self, qc, ↓DL.qtd, DL.qtu, ↓DL.qfd, DL.qfu]
  exact q1 ⟨by omega, by omega⟩
def c_stripe_begin (C_InvalidFile C_NoRoom C_StripeForm : Addr) : CT
  | [.fz f, .fz (.tup x), .fz (.int n), .fz (.int y)], R, X => ∃ (v : Nat) (xs : List Int), f = formD C_StripeForm v ∧ 2 ≤ v ∧ v ≤ 5 ∧ x = xs.map .int ∧ dk (SM v).sz xs ∧ (n < 0 ∨ 1 < n ∨ y < 0 ∨ (v : Int) ≤ y → X (.ref C_InvalidFile) none []) ∧ (∀ i j : Nat, n = (i : Int) → i < 2 → y = (j : Int) → j < v → (can (bDeed i j) xs = true → R (.fz (tupI (aft (bDeed i j) xs))) []) ∧ (can (bDeed i j) xs = false → X (.ref C_NoRoom) none []))
  | _, _, _ => False
theorem sc_stripe_begin : FnScope N_stripe_begin ["form", "disk", "number", "value"] (defScope s_stripe_begin) := ⟨rfl, rfl, rfl, by decide +kernel, rfl, by decide +kernel, by decide +kernel⟩
theorem ok_stripe_begin (T : Txt K mg P w C_WreckError C_InvalidMachine C_InvalidDisk C_InvalidSketch C_NoSuchDeed C_CannotDo C_InvalidForm C_InvalidFile C_NoRoom C_Machine C_StripeForm) (G__check_number : FnAt P w K mg base TB 1 "_check_number" ["number"] false (c__check_number C_InvalidFile)) (G_check_value : FnAt P w K mg base TB 1 "check_value" ["form", "value"] false (c_check_value C_InvalidFile C_StripeForm)) (F : TopFn K mg "stripe_begin" s_stripe_begin ["form", "disk", "number", "value"]) : FnAt P w K mg base TB 2 "stripe_begin" ["form", "disk", "number", "value"] false (c_stripe_begin C_InvalidFile C_NoRoom C_StripeForm) := by
  have nd := sc_stripe_begin.nd
  refine fnAt F sc_stripe_begin (fun ms R X h => by unfold c_stripe_begin at h; split at h <;> first | rfl | exact h.elim) (fun h => by cases h) fun f cdv A outer s H E x0 Xd hr => ?_
  refine ⟨_, _, (dss_cons (ds_expr (de_callN G__check_number hr rfl rfl takesD (da_cons (dv 2) da_nil)))
      (dss_cons (ds_expr (de_callN G_check_value hr rfl rfl takesD (da_cons (dv 0) (da_cons (dv 3) da_nil))))
      (dss_cons (ds_if (dt_cmp (op_neA rfl (hu64 hr)) od_ne (de_ix rfl (hu1 hr) (dv 1) (de_gint T.c_WORK)) (de_gint T.c_NO_WORK) (nomark _))
      (dss_one (ds_raiseC T.x_NoRoom rfl takesD rfl))
      dss_nil)
      (dss_cons (ds_set (i := 4) nd rfl (by first | exact Or.inl rfl | exact Or.inr rfl) (de_callTy (call_listA rfl) cd_list (by rfl) T.n_list bo_list (da_cons (dv 1) da_nil)))
      (dss_cons (ds_setI (i := 4) rfl (dv 3) (dv 2))
      (dss_cons (ds_setI (i := 4) rfl (de_op (op_addA rfl) od_add de_int (dv 2)) (de_gint T.c_WORK))
      (dss_one (ds_ret (de_callTy (call_tupleA rfl) cd_tuple (by rfl) T.n_tuple bo_tuple (da_cons (dv 4) da_nil)))))))))), ?_⟩
  intro ms Rd h
  unfold c_stripe_begin at h
  split at h <;> first | exact (show False from h).elim | skip
  rename_i f x n y
  obtain ⟨v, xs, rfl, v2, v5, rfl, hx, qf, q⟩ := h
  have eF : formD C_StripeForm v = .obj C_StripeForm [("alphabet", .int (v : Int))] := rfl
  simp -dsimp only [↓DL.qd, DL.qu, DL.qs, ↓DL.s_seq, mkD, D.key, dgetM, hide, hideS, Slot.fr?, Slot.m?, Slot.put, D.seqs, D.tyN, startD, List.replicate, Nat.reduceSub, Nat.reduceAdd, Nat.reduceLeDiff, wipeD, unw, freeAt, Slot.free, Nat.reduceEqDiff, id_eq, eq_self, c__check_number, c_check_value, qc, ↓DL.qtd, DL.qtu, ↓DL.qfd, DL.qfu]
  refine ⟨fun n0 => ⟨v, rfl, fun y0 => ?_, fun c => qf (by omega)⟩, fun c => qf (by omega)⟩
  obtain ⟨i, rfl⟩ : ∃ i : Nat, n = (i : Int) := ⟨n.toNat, by omega⟩
  obtain ⟨j, rfl⟩ : ∃ j : Nat, y = (j : Int) := ⟨y.toNat, by omega⟩
  obtain ⟨q1, q2⟩ := q i j rfl (by omega) rfl (by omega)
  obtain ⟨x0, x1, x2, x3, rfl⟩ : ∃ a b c e, xs = [a, b, c, e] := by
    have hl := hx.1
    match xs, hl with
    | [a, b, c, e], _ => exact ⟨a, b, c, e, rfl⟩
  have b3 := hx.2 3 (by show 3 < 4; decide)
  simp only [SM_sz, gi, List.getD_cons_zero, List.getD_cons_succ] at b3
  have y3 : ∀ a b c e : Int, atI [D.int a, D.int b, D.int c, D.int e] 3 = some (.int e) := fun _ _ _ _ => rfl
  have i3 : ixN 4 3 = some 3 := rfl
  have hcan : can (bDeed i j) [x0, x1, x2, x3] = decide (x3 = 0) := by
    show (has 1 x3 && true) = _
    rw [Bool.and_true, show (1 : Int) = 1 * 2 ^ (0 : Int).toNat from rfl, has_one (by decide) (by unfold sv; omega)]
  rw [hcan] at q1 q2
  simp -dsimp only [↓DL.qd, DL.qu, DL.qs, ↓DL.s_seq, mkD, D.key, dgetM, hide, hideS, Slot.fr?, Slot.m?, Slot.put, D.seqs, D.tyN, startD, List.replicate, Nat.reduceSub, Nat.reduceAdd, Nat.reduceLeDiff, wipeD, unw, freeAt, Slot.free, Nat.reduceEqDiff, id_eq, eq_self, c__check_number, c_check_value, qc, ↓DL.qtd, DL.qtu, ↓DL.qfd, DL.qfu,  y3]
  by_cases h3 : x3 = 0
  · subst h3
    have q1 := q1 rfl
    rw [decide_eq_true rfl]
    simp -dsimp only [↓DL.qd, DL.qu, DL.qs, ↓DL.s_seq, mkD, D.key, dgetM, hide, hideS, Slot.fr?, Slot.m?, Slot.put, D.seqs, D.tyN, startD, List.replicate, Nat.reduceSub, Nat.reduceAdd, Nat.reduceLeDiff, wipeD, unw, freeAt, Slot.free, Nat.reduceEqDiff, id_eq, eq_self, c__check_number, c_check_value, qc, ↓DL.qtd, DL.qtu, ↓DL.qfd, DL.qfu,  i3]
    rcases (show i = 0 ∨ i = 1 by omega) with rfl | rfl
    · rw [show ixN 4 ((0 : Nat) : Int) = some 0 from rfl]
      simp -dsimp only [↓DL.qd, DL.qu, DL.qs, ↓DL.s_seq, mkD, D.key, dgetM, hide, hideS, Slot.fr?, Slot.m?, Slot.put, D.seqs, D.tyN, startD, List.replicate, Nat.reduceSub, Nat.reduceAdd, Nat.reduceLeDiff, wipeD, unw, freeAt, Slot.free, Nat.reduceEqDiff, id_eq, eq_self, c__check_number, c_check_value, qc, ↓DL.qtd, DL.qtu, ↓DL.qfd, DL.qfu,  i3]
      exact q1
    · rw [show ixN 4 ((1 : Nat) : Int) = some 1 from rfl]
      simp -dsimp only [↓DL.qd, DL.qu, DL.qs, ↓DL.s_seq, mkD, D.key, dgetM, hide, hideS, Slot.fr?, Slot.m?, Slot.put, D.seqs, D.tyN, startD, List.replicate, Nat.reduceSub, Nat.reduceAdd, Nat.reduceLeDiff, wipeD, unw, freeAt, Slot.free, Nat.reduceEqDiff, id_eq, eq_self, c__check_number, c_check_value, qc, ↓DL.qtd, DL.qtu, ↓DL.qfd, DL.qfu,  i3]
      exact q1
  · rw [decide_eq_false h3]
    simp -dsimp only [↓DL.qd, DL.qu, DL.qs, ↓DL.s_seq, mkD, D.key, dgetM, hide, hideS, Slot.fr?, Slot.m?, Slot.put, D.seqs, D.tyN, startD, List.replicate, Nat.reduceSub, Nat.reduceAdd, Nat.reduceLeDiff, wipeD, unw, freeAt, Slot.free, Nat.reduceEqDiff, id_eq, eq_self, c__check_number, c_check_value, qc, ↓DL.qtd, DL.qtu, ↓DL.qfd, DL.qfu]
    exact q2 (decide_eq_false h3)
end
end K45
namespace K45
open PySem PySem.Spec L2 DL Msk Tel
section
variable {P : Program} {w : World} {K : PySem.W.Frag} {mg : Str → Option Value} {base : Heap} {TB : List (Addr × Str)} {C_WreckError C_InvalidMachine C_InvalidDisk C_InvalidSketch C_NoSuchDeed C_CannotDo C_InvalidForm C_InvalidFile C_NoRoom C_Machine C_StripeForm : Addr}
def c_stripe_end (C_NoRoom C_StripeForm : Addr) : CT
  | [.fz f, .fz (.tup x)], R, X => ∃ (v : Nat) (xs : List Int), f = formD C_StripeForm v ∧ 2 ≤ v ∧ v ≤ 5 ∧ x = xs.map .int ∧ dk (SM v).sz xs ∧ (∀ i j : Nat, gi xs 0 = (i : Int) → gi xs 1 = (j : Int) → (can (eDeed v i j) xs = true → R (.fz (tupI (aft (eDeed v i j) xs))) []) ∧ (can (eDeed v i j) xs = false → X (.ref C_NoRoom) none []))
  | _, _, _ => False
theorem sc_stripe_end : FnScope N_stripe_end ["form", "disk"] (defScope s_stripe_end) := ⟨rfl, rfl, rfl, by decide +kernel, rfl, by decide +kernel, by decide +kernel⟩
theorem ok_stripe_end (T : Txt K mg P w C_WreckError C_InvalidMachine C_InvalidDisk C_InvalidSketch C_NoSuchDeed C_CannotDo C_InvalidForm C_InvalidFile C_NoRoom C_Machine C_StripeForm) (F : TopFn K mg "stripe_end" s_stripe_end ["form", "disk"]) : FnAt P w K mg base TB 1 "stripe_end" ["form", "disk"] false (c_stripe_end C_NoRoom C_StripeForm) := by
  have nd := sc_stripe_end.nd
  refine fnAt F sc_stripe_end (fun ms R X h => by unfold c_stripe_end at h; split at h <;> first | rfl | exact h.elim) (fun h => by cases h) fun f cdv A outer s H E x0 Xd hr => ?_
  refine ⟨_, _, (dss_cons (ds_if (dt_cmp (op_eqA rfl (hu64 hr)) od_eq (de_ix rfl (hu1 hr) (dv 1) (de_gint T.c_WORK)) (de_gint T.c_NO_WORK) (nomark _))
      (dss_one (ds_raiseC T.x_NoRoom rfl takesD rfl))
      dss_nil)
      (dss_one (ds_ret (de_tup (da_cons (de_ix rfl (hu1 hr) (dv 1) de_int) (da_cons (de_ix rfl (hu1 hr) (dv 1) de_int) (da_cons (de_op op_modN od_mod (de_op (op_addA rfl) od_add (de_ix rfl (hu1 hr) (dv 1) de_int) (de_ix rfl (hu1 hr) (dv 1) de_int)) (de_attr (f := "alphabet") (fun C => C = C_StripeForm) rfl T.at_alphabet (dv 0))) (da_cons (de_gint T.c_NO_WORK) da_nil)))))))), ?_⟩
  intro ms Rd h
  unfold c_stripe_end at h
  split at h <;> first | exact (show False from h).elim | skip
  rename_i f x
  obtain ⟨v, xs, rfl, v2, v5, rfl, hx, q⟩ := h
  have eF : formD C_StripeForm v = .obj C_StripeForm [("alphabet", .int (v : Int))] := rfl
  obtain ⟨x0, x1, x2, x3, rfl⟩ : ∃ a b c e, xs = [a, b, c, e] := by
    have hl := hx.1
    match xs, hl with
    | [a, b, c, e], _ => exact ⟨a, b, c, e, rfl⟩
  have b0 := hx.2 0 (by show 0 < 4; decide)
  have b1 := hx.2 1 (by show 1 < 4; decide)
  have b3 := hx.2 3 (by show 3 < 4; decide)
  simp only [SM_sz, gi, List.getD_cons_zero, List.getD_cons_succ] at b0 b1 b3
  obtain ⟨f, rfl⟩ : ∃ i : Nat, x0 = (i : Int) := ⟨x0.toNat, by omega⟩
  obtain ⟨s, rfl⟩ : ∃ i : Nat, x1 = (i : Int) := ⟨x1.toNat, by omega⟩
  obtain ⟨q1, q2⟩ := q f s rfl rfl
  have y3 : ∀ a b c e : Int, atI [D.int a, D.int b, D.int c, D.int e] 3 = some (.int e) := fun _ _ _ _ => rfl
  have y1 : ∀ a b c e : Int, atI [D.int a, D.int b, D.int c, D.int e] 1 = some (.int b) := fun _ _ _ _ => rfl
  have y0 : ∀ a b c e : Int, atI [D.int a, D.int b, D.int c, D.int e] 0 = some (.int a) := fun _ _ _ _ => rfl
  have hcan : can (eDeed v f s) [(f : Int), (s : Int), x2, x3] = !decide (x3 = 0) := by
    show (has (1 * 2 ^ f) f && (has (1 * 2 ^ s) s && (has 6 x3 && true))) = _
    have h6 : has 6 x3 = !decide (x3 = 0) := by
      rcases (show x3 = 0 ∨ x3 = 1 ∨ x3 = 2 by omega) with rfl | rfl | rfl <;> decide
    rw [Bool.and_true, h6, show (1 * 2 ^ f : Int) = 1 * 2 ^ ((f : Nat) : Int).toNat from rfl, show (1 * 2 ^ s : Int) = 1 * 2 ^ ((s : Nat) : Int).toNat from rfl, has_one (by unfold sv; omega) (by unfold sv; omega), has_one (by unfold sv; omega) (by unfold sv; omega)]
    simp
  rw [hcan] at q1 q2
  simp -dsimp only [↓DL.qd, DL.qu, DL.qs, ↓DL.s_seq, mkD, D.key, dgetM, hide, hideS, Slot.fr?, Slot.m?, Slot.put, D.seqs, D.tyN, startD, List.replicate, Nat.reduceSub, Nat.reduceAdd, Nat.reduceLeDiff, wipeD, unw, freeAt, Slot.free, Nat.reduceEqDiff, id_eq, eq_self, qc, ↓DL.qtd, DL.qtu, ↓DL.qfd, DL.qfu,  y3]
  by_cases h3 : x3 = 0
  · rw [decide_eq_true h3]
    simp -dsimp only [↓DL.qd, DL.qu, DL.qs, ↓DL.s_seq, mkD, D.key, dgetM, hide, hideS, Slot.fr?, Slot.m?, Slot.put, D.seqs, D.tyN, startD, List.replicate, Nat.reduceSub, Nat.reduceAdd, Nat.reduceLeDiff, wipeD, unw, freeAt, Slot.free, Nat.reduceEqDiff, id_eq, eq_self, qc, ↓DL.qtd, DL.qtu, ↓DL.qfd, DL.qfu]
    exact q2 (by rw [decide_eq_true h3]; rfl)
  · have q1 := q1 (by rw [decide_eq_false h3]; rfl)
    rw [decide_eq_false h3]
    have em : ((f : Int) + (s : Int)).fmod (v : Int) = (((f + s) % v : Nat) : Int) := by rw [Int.fmod_eq_emod_of_nonneg _ (by omega)]; push_cast; rfl
    simp -dsimp only [↓DL.qd, DL.qu, DL.qs, ↓DL.s_seq, mkD, D.key, dgetM, hide, hideS, Slot.fr?, Slot.m?, Slot.put, D.seqs, D.tyN, startD, List.replicate, Nat.reduceSub, Nat.reduceAdd, Nat.reduceLeDiff, wipeD, unw, freeAt, Slot.free, Nat.reduceEqDiff, id_eq, eq_self, qc, ↓DL.qtd, DL.qtu, ↓DL.qfd, DL.qfu,  y0, y1, em, eF]
    exact ⟨by omega, by decide, q1⟩
def c_stripe_rebuild (C_InvalidFile C_NoRoom C_StripeForm : Addr) : CT
  | [.fz f, .fz (.tup x), .fz (.int n)], R, X => ∃ (v : Nat) (xs : List Int), f = formD C_StripeForm v ∧ 2 ≤ v ∧ v ≤ 5 ∧ x = xs.map .int ∧ dk (SM v).sz xs ∧ (n < 0 ∨ 1 < n → X (.ref C_InvalidFile) none []) ∧ (∀ i o p : Nat, n = (i : Int) → i < 2 → gi xs (1 - i) = (o : Int) → gi xs 2 = (p : Int) → (can (rDeed v i o p) xs = true → R (.fz (tupI (aft (rDeed v i o p) xs))) []) ∧ (can (rDeed v i o p) xs = false → X (.ref C_NoRoom) none []))
  | _, _, _ => False
theorem sc_stripe_rebuild : FnScope N_stripe_rebuild ["form", "disk", "number"] (defScope s_stripe_rebuild) := ⟨rfl, rfl, rfl, by decide +kernel, rfl, by decide +kernel, by decide +kernel⟩
theorem ok_stripe_rebuild (T : Txt K mg P w C_WreckError C_InvalidMachine C_InvalidDisk C_InvalidSketch C_NoSuchDeed C_CannotDo C_InvalidForm C_InvalidFile C_NoRoom C_Machine C_StripeForm) (G__check_number : FnAt P w K mg base TB 1 "_check_number" ["number"] false (c__check_number C_InvalidFile)) (F : TopFn K mg "stripe_rebuild" s_stripe_rebuild ["form", "disk", "number"]) : FnAt P w K mg base TB 2 "stripe_rebuild" ["form", "disk", "number"] false (c_stripe_rebuild C_InvalidFile C_NoRoom C_StripeForm) := by
  have nd := sc_stripe_rebuild.nd
  refine fnAt F sc_stripe_rebuild (fun ms R X h => by unfold c_stripe_rebuild at h; split at h <;> first | rfl | exact h.elim) (fun h => by cases h) fun f cdv A outer s H E x0 Xd hr => ?_
  refine ⟨_, _, (dss_cons (ds_expr (de_callN G__check_number hr rfl rfl takesD (da_cons (dv 2) da_nil)))
      (dss_cons (ds_if (dt_cmp (op_neA rfl (hu64 hr)) od_ne (de_ix rfl (hu1 hr) (dv 1) (de_gint T.c_WORK)) (de_gint T.c_NO_WORK) (nomark _))
      (dss_one (ds_raiseC T.x_NoRoom rfl takesD rfl))
      dss_nil)
      (dss_cons (ds_set (i := 3) nd rfl (by first | exact Or.inl rfl | exact Or.inr rfl) (de_callTy (call_listA rfl) cd_list (by rfl) T.n_list bo_list (da_cons (dv 1) da_nil)))
      (dss_cons (ds_setI (i := 3) rfl (de_op op_modN od_mod (de_op op_sub od_sub (de_ix rfl (hu1 hr) (dv 1) (de_gint T.c_PARITY)) (de_ix rfl (hu1 hr) (dv 1) (de_op op_sub od_sub de_int (dv 2)))) (de_attr (f := "alphabet") (fun C => C = C_StripeForm) rfl T.at_alphabet (dv 0))) (dv 2))
      (dss_one (ds_ret (de_callTy (call_tupleA rfl) cd_tuple (by rfl) T.n_tuple bo_tuple (da_cons (dv 3) da_nil)))))))), ?_⟩
  intro ms Rd h
  unfold c_stripe_rebuild at h
  split at h <;> first | exact (show False from h).elim | skip
  rename_i f x n
  obtain ⟨v, xs, rfl, v2, v5, rfl, hx, qf, q⟩ := h
  have eF : formD C_StripeForm v = .obj C_StripeForm [("alphabet", .int (v : Int))] := rfl
  simp -dsimp only [↓DL.qd, DL.qu, DL.qs, ↓DL.s_seq, mkD, D.key, dgetM, hide, hideS, Slot.fr?, Slot.m?, Slot.put, D.seqs, D.tyN, startD, List.replicate, Nat.reduceSub, Nat.reduceAdd, Nat.reduceLeDiff, wipeD, unw, freeAt, Slot.free, Nat.reduceEqDiff, id_eq, eq_self, c__check_number, qc, ↓DL.qtd, DL.qtu, ↓DL.qfd, DL.qfu]
  refine ⟨fun n0 => ?_, qf⟩
  obtain ⟨n, rfl⟩ : ∃ i : Nat, n = (i : Int) := ⟨n.toNat, by omega⟩
  obtain ⟨x0, x1, x2, x3, rfl⟩ : ∃ a b c e, xs = [a, b, c, e] := by
    have hl := hx.1
    match xs, hl with
    | [a, b, c, e], _ => exact ⟨a, b, c, e, rfl⟩
  have b0 := hx.2 0 (by show 0 < 4; decide)
  have b1 := hx.2 1 (by show 1 < 4; decide)
  have b2 := hx.2 2 (by show 2 < 4; decide)
  have b3 := hx.2 3 (by show 3 < 4; decide)
  simp only [SM_sz, gi, List.getD_cons_zero, List.getD_cons_succ] at b0 b1 b2 b3
  obtain ⟨p, rfl⟩ : ∃ i : Nat, x2 = (i : Int) := ⟨x2.toNat, by omega⟩
  obtain ⟨o, ho⟩ : ∃ o : Nat, gi [x0, x1, (p : Int), x3] (1 - n) = (o : Int) := ⟨(gi [x0, x1, (p : Int), x3] (1 - n)).toNat, by
    rcases (show n = 0 ∨ n = 1 by omega) with rfl | rfl
    · show x1 = (x1.toNat : Int); omega
    · show x0 = (x0.toNat : Int); omega⟩
  have hob : o < 16 := by
    rcases (show n = 0 ∨ n = 1 by omega) with rfl | rfl
    · have : x1 = (o : Int) := ho
      omega
    · have : x0 = (o : Int) := ho
      omega
  have hov : o < v := by
    rcases (show n = 0 ∨ n = 1 by omega) with rfl | rfl
    · have : x1 = (o : Int) := ho
      omega
    · have : x0 = (o : Int) := ho
      omega
  obtain ⟨q1, q2⟩ := q n o p rfl (by omega) ho rfl
  have y3 : ∀ a b c e : Int, atI [D.int a, D.int b, D.int c, D.int e] 3 = some (.int e) := fun _ _ _ _ => rfl
  have y2 : ∀ a b c e : Int, atI [D.int a, D.int b, D.int c, D.int e] 2 = some (.int c) := fun _ _ _ _ => rfl
  have hat : atI [D.int x0, D.int x1, D.int (p : Int), D.int x3] ((1 : Int) - (n : Int)) = some (.int (o : Int)) := by
    rw [← ho]
    rcases (show n = 0 ∨ n = 1 by omega) with rfl | rfl <;> rfl
  have hcan : can (rDeed v n o p) [x0, x1, (p : Int), x3] = decide (x3 = 0) := by
    show (has (1 * 2 ^ o) (gi [x0, x1, (p : Int), x3] (1 - n)) && (has (1 * 2 ^ p) (p : Int) && (has 1 x3 && true))) = _
    have h13 : has 1 x3 = decide (x3 = 0) := has_one (u := 0) (by decide) (by unfold sv; omega)
    rw [ho, Bool.and_true, h13, show (1 * 2 ^ o : Int) = 1 * 2 ^ ((o : Nat) : Int).toNat from rfl, show (1 * 2 ^ p : Int) = 1 * 2 ^ ((p : Nat) : Int).toNat from rfl, has_one (by unfold sv; omega) (by unfold sv; omega), has_one (by unfold sv; omega) (by unfold sv; omega)]
    simp
  rw [hcan] at q1 q2
  simp -dsimp only [↓DL.qd, DL.qu, DL.qs, ↓DL.s_seq, mkD, D.key, dgetM, hide, hideS, Slot.fr?, Slot.m?, Slot.put, D.seqs, D.tyN, startD, List.replicate, Nat.reduceSub, Nat.reduceAdd, Nat.reduceLeDiff, wipeD, unw, freeAt, Slot.free, Nat.reduceEqDiff, id_eq, eq_self, c__check_number, qc, ↓DL.qtd, DL.qtu, ↓DL.qfd, DL.qfu,  y3]
  by_cases h3 : x3 = 0
  · have q1 := q1 (decide_eq_true h3)
    rw [decide_eq_true h3]
    have em : ((p : Int) - (o : Int)).fmod (v : Int) = (((p + v - o) % v : Nat) : Int) := by
      rw [Int.fmod_eq_emod_of_nonneg _ (by omega), Int.natCast_emod, show ((p + v - o : Nat) : Int) = (p : Int) - o + v by omega, Int.add_emod_right]
    simp -dsimp only [↓DL.qd, DL.qu, DL.qs, ↓DL.s_seq, mkD, D.key, dgetM, hide, hideS, Slot.fr?, Slot.m?, Slot.put, D.seqs, D.tyN, startD, List.replicate, Nat.reduceSub, Nat.reduceAdd, Nat.reduceLeDiff, wipeD, unw, freeAt, Slot.free, Nat.reduceEqDiff, id_eq, eq_self, c__check_number, qc, ↓DL.qtd, DL.qtu, ↓DL.qfd, DL.qfu,  y2, hat, em, eF]
    refine ⟨by omega, ?_⟩
    rcases (show n = 0 ∨ n = 1 by omega) with rfl | rfl
    · rw [show ixN 4 ((0 : Nat) : Int) = some 0 from rfl]
      simp -dsimp only [↓DL.qd, DL.qu, DL.qs, ↓DL.s_seq, mkD, D.key, dgetM, hide, hideS, Slot.fr?, Slot.m?, Slot.put, D.seqs, D.tyN, startD, List.replicate, Nat.reduceSub, Nat.reduceAdd, Nat.reduceLeDiff, wipeD, unw, freeAt, Slot.free, Nat.reduceEqDiff, id_eq, eq_self, c__check_number, qc, ↓DL.qtd, DL.qtu, ↓DL.qfd, DL.qfu]
      rw [em]
      exact q1
    · rw [show ixN 4 ((1 : Nat) : Int) = some 1 from rfl]
      simp -dsimp only [↓DL.qd, DL.qu, DL.qs, ↓DL.s_seq, mkD, D.key, dgetM, hide, hideS, Slot.fr?, Slot.m?, Slot.put, D.seqs, D.tyN, startD, List.replicate, Nat.reduceSub, Nat.reduceAdd, Nat.reduceLeDiff, wipeD, unw, freeAt, Slot.free, Nat.reduceEqDiff, id_eq, eq_self, c__check_number, qc, ↓DL.qtd, DL.qtu, ↓DL.qfd, DL.qfu]
      rw [em]
      exact q1
  · rw [decide_eq_false h3]
    simp -dsimp only [↓DL.qd, DL.qu, DL.qs, ↓DL.s_seq, mkD, D.key, dgetM, hide, hideS, Slot.fr?, Slot.m?, Slot.put, D.seqs, D.tyN, startD, List.replicate, Nat.reduceSub, Nat.reduceAdd, Nat.reduceLeDiff, wipeD, unw, freeAt, Slot.free, Nat.reduceEqDiff, id_eq, eq_self, c__check_number, qc, ↓DL.qtd, DL.qtu, ↓DL.qfd, DL.qfu]
    exact q2 (decide_eq_false h3)
end
end K45
namespace K45
open PySem PySem.Spec L2 DL Msk Tel
section
variable {P : Program} {w : World} {K : PySem.W.Frag} {mg : Str → Option Value} {base : Heap} {TB : List (Addr × Str)} {C_WreckError C_InvalidMachine C_InvalidDisk C_InvalidSketch C_NoSuchDeed C_CannotDo C_InvalidForm C_InvalidFile C_NoRoom C_Machine C_StripeForm : Addr}
def badD : D := .tup [.str "refused", .bl true, .bl false]
def roomD : D := .tup [.str "refused", .bl false, .bl true]
def ansD (d : Deed) (xs : List Int) : D := if can d xs = true then tupI (aft d xs) else roomD
def trOk (v : Nat) (xs : List Int) (k n y : Int) (A : D) : Prop :=
  (k = 0 ∧ (n < 0 ∨ 1 < n ∨ y < 0 ∨ (v : Int) ≤ y) ∧ A = badD) ∨ (∃ i j : Nat, k = 0 ∧ n = (i : Int) ∧ i < 2 ∧ y = (j : Int) ∧ j < v ∧ A = ansD (bDeed i j) xs) ∨ (∃ i j : Nat, k = 1 ∧ gi xs 0 = (i : Int) ∧ gi xs 1 = (j : Int) ∧ A = ansD (eDeed v i j) xs) ∨ (k = 2 ∧ (n < 0 ∨ 1 < n) ∧ A = badD) ∨ ∃ i o p : Nat, k = 2 ∧ n = (i : Int) ∧ i < 2 ∧ gi xs (1 - i) = (o : Int) ∧ gi xs 2 = (p : Int) ∧ A = ansD (rDeed v i o p) xs
theorem ans_no {d : Deed} {xs : List Int} {R : DL.M → List DL.M → Prop} (h : can d xs = false) (q : R (.fz (ansD d xs)) []) : R (.fz roomD) [] := by
  unfold ansD at q
  rwa [if_neg (by rw [h]; decide)] at q
theorem ans_yes {d : Deed} {xs : List Int} (h : can d xs = true) : ansD d xs = tupI (aft d xs) := if_pos h
theorem aft_length {d : Deed} {xs : List Int} : (aft d xs).length = xs.length := by
  have key : ∀ (c : List (Nat × Src)) (vs : List Int), (c.foldl (fun vs p => vs.set p.1 (srcV xs p.2)) vs).length = vs.length := by
    intro c
    induction c with
    | nil => intro vs; rfl
    | cons p c ih => intro vs; rw [List.foldl_cons, ih, List.length_set]
  exact key d.c xs
theorem z4 : decide ((0 : Int) < ((4 : Nat) : Int)) = true := by decide
theorem aft_four {d : Deed} {xs : List Int} (h : xs.length = 4) : ∃ a b c e, aft d xs = [a, b, c, e] := by
  have h : (aft d xs).length = 4 := by rw [aft_length]; exact h
  match aft d xs, h with
  | [a, b, c, e], _ => exact ⟨a, b, c, e, rfl⟩
def c__law_tried (C_StripeForm : Addr) : CT
  | [.fz f, .fz (.tup x), .fz (.int k), .fz (.int n), .fz (.int y)], R, _ => ∃ (v : Nat) (xs : List Int) (A : D), f = formD C_StripeForm v ∧ 2 ≤ v ∧ v ≤ 5 ∧ x = xs.map .int ∧ dk (SM v).sz xs ∧ trOk v xs k n y A ∧ R (.fz A) []
  | _, _, _ => False
theorem sc__law_tried : FnScope N__law_tried ["form", "disk", "question", "number", "value"] (defScope s__law_tried) := ⟨rfl, rfl, rfl, by decide +kernel, rfl, by decide +kernel, by decide +kernel⟩
theorem ok__law_tried (T : Txt K mg P w C_WreckError C_InvalidMachine C_InvalidDisk C_InvalidSketch C_NoSuchDeed C_CannotDo C_InvalidForm C_InvalidFile C_NoRoom C_Machine C_StripeForm) (G_stripe_begin : FnAt P w K mg base TB 2 "stripe_begin" ["form", "disk", "number", "value"] false (c_stripe_begin C_InvalidFile C_NoRoom C_StripeForm)) (G_stripe_end : FnAt P w K mg base TB 1 "stripe_end" ["form", "disk"] false (c_stripe_end C_NoRoom C_StripeForm)) (G_stripe_rebuild : FnAt P w K mg base TB 2 "stripe_rebuild" ["form", "disk", "number"] false (c_stripe_rebuild C_InvalidFile C_NoRoom C_StripeForm)) (F : TopFn K mg "_law_tried" s__law_tried ["form", "disk", "question", "number", "value"]) : FnAt P w K mg base TB 3 "_law_tried" ["form", "disk", "question", "number", "value"] false (c__law_tried C_StripeForm) := by
  have nd := sc__law_tried.nd
  refine fnAt F sc__law_tried (fun ms R X h => by unfold c__law_tried at h; split at h <;> first | rfl | exact h.elim) (fun h => by cases h) fun f cdv A outer s H E x0 Xd hr => ?_
  have bd0 := fun (W : WX) (Dw : Value → Pay → DSt → Prop) (pn : List (Addr × Obj)) (xe : Value → Shared → Prop) (tkb : Takes (Cx.tr (cxOf (L2.CX P w) P w K mg base N__law_tried "_law_tried" (defScope s__law_tried) f cdv A outer s H E) pn xe) W) (pob : PassesOwn (model P w) (Cx.A (cxOf (L2.CX P w) P w K mg base N__law_tried "_law_tried" (defScope s__law_tried) f cdv A outer s H E)) (Cx.env (cxOf (L2.CX P w) P w K mg base N__law_tried "_law_tried" (defScope s__law_tried) f cdv A outer s H E)) xe) => ((dss_cons (ds_if (dt_cmp (op_eqA rfl (hu64 hr)) od_eq (dv 2) de_int (nomark _))
      (dss_one (ds_set (i := 6) nd rfl (by first | exact Or.inl rfl | exact Or.inr rfl) (de_callN G_stripe_begin hr rfl rfl tkb (da_cons (dv 0) (da_cons (dv 1) (da_cons (dv 3) (da_cons (dv 4) da_nil)))))))
      (dss_one (ds_if (dt_cmp (op_eqA rfl (hu64 hr)) od_eq (dv 2) de_int (nomark _))
      (dss_one (ds_set (i := 6) nd rfl (by first | exact Or.inl rfl | exact Or.inr rfl) (de_callN G_stripe_end (hr.mono (by decide)) rfl rfl tkb (da_cons (dv 0) (da_cons (dv 1) da_nil)))))
      (dss_one (ds_set (i := 6) nd rfl (by first | exact Or.inl rfl | exact Or.inr rfl) (de_callN G_stripe_rebuild hr rfl rfl tkb (da_cons (dv 0) (da_cons (dv 1) (da_cons (dv 3) da_nil)))))))))
      (dss_one (ds_ret (de_ife (DW.pt (dw_and (dt_truth (de_callB call_isi cd_isi (by rfl) T.n_isinstance bo_isinstance (da_cons (dv 6) (da_cons (de_ty rfl T.n_tuple bo_tuple) da_nil)))) (dw_and (dt_cmp op_gt od_gt (de_callB (call_lenA rfl) cd_len (by rfl) T.n_len bo_len (da_cons (dv 6) da_nil)) de_int (nomark _)) (dw_and1 (dt_truth (de_callB call_isi cd_isi (by rfl) T.n_isinstance bo_isinstance (da_cons (de_ix rfl (hu1 hr) (dv 6) de_int) (da_cons (de_ty rfl T.n_str bo_str) da_nil)))))))) (de_tup (da_cons de_str da_nil)) (dv 6))))) : DSs (ZX.mk K W Dw TB) (Cx.tr (cxOf (L2.CX P w) P w K mg base N__law_tried "_law_tried" (defScope s__law_tried) f cdv A outer s H E) pn xe) (tryB (stB (defBody s__law_tried) 0)) _ _)
  dsimp only at bd0
  have su0 := fun (a : Addr) (oe : Obj) (cls : Value) (d : Option Addr) (pl : Pay) (pn : List (Addr × Obj)) (hpd : payD d pl) (hz : Zc cls d oe) (hf : ∃ vs, oe.data = .fields vs) => ((dss_one (ds_ret (de_tup (da_cons de_str (da_cons (de_isE rfl hpd hz hf (by rfl) T.n_isinstance (da_cons (dv 5) (da_cons (de_gref T.x_InvalidFile.mgc) da_nil))) (da_cons (de_isE rfl hpd hz hf (by rfl) T.n_isinstance (da_cons (dv 5) (da_cons (de_gref T.x_NoRoom.mgc) da_nil))) da_nil)))))) : DSs (noxZ (ZX.mk K (fun _ _ _ _ => False) (fun _ _ _ => False) TB)) (Cx.suite (cxOf (L2.CX P w) P w K mg base N__law_tried "_law_tried" (defScope s__law_tried) f cdv A outer s H E) a ((a, oe) :: pn)) (hdB (stB (defBody s__law_tried) 0)) _ _)
  dsimp only at su0
  refine ⟨_, _, (dss_one (ds_tryA (i := 5) rfl rfl rfl nd rfl rfl ⟨rfl, by decide, .inl T.x_WreckError.mgc⟩ takesD bd0 su0)), ?_⟩
  intro ms Rd h
  unfold c__law_tried at h
  split at h <;> first | exact (show False from h).elim | skip
  rename_i f x k n y
  obtain ⟨v, xs, A, rfl, v2, v5, rfl, hx, ht, q⟩ := h
  rcases ht with ⟨rfl, hb, rfl⟩ | ⟨i, j, rfl, rfl, hi, rfl, hj, rfl⟩ | ⟨i, j, rfl, hi, hj, rfl⟩ | ⟨rfl, hb, rfl⟩ | ⟨i, o, p, rfl, rfl, hi, ho, hp, rfl⟩
  · simp -dsimp only [↓DL.qd, DL.qu, DL.qs, ↓DL.s_seq, mkD, D.key, dgetM, hide, hideS, Slot.fr?, Slot.m?, Slot.put, D.seqs, D.tyN, startD, List.replicate, Nat.reduceSub, Nat.reduceAdd, Nat.reduceLeDiff, wipeD, unw, freeAt, Slot.free, Nat.reduceEqDiff, id_eq, eq_self, c_stripe_begin, c_stripe_end, c_stripe_rebuild, T.ex_WreckError_WreckError, T.ex_InvalidMachine_WreckError, T.ex_InvalidDisk_WreckError, T.ex_InvalidSketch_WreckError, T.ex_NoSuchDeed_WreckError, T.ex_CannotDo_WreckError, T.ex_InvalidForm_WreckError, T.ex_InvalidFile_WreckError, T.ex_NoRoom_WreckError, DL.o_isE T.xi_WreckError T.is_WreckError_InvalidFile, DL.o_isE T.xi_InvalidMachine T.is_InvalidMachine_InvalidFile, DL.o_isE T.xi_InvalidDisk T.is_InvalidDisk_InvalidFile, DL.o_isE T.xi_InvalidSketch T.is_InvalidSketch_InvalidFile, DL.o_isE T.xi_NoSuchDeed T.is_NoSuchDeed_InvalidFile, DL.o_isX T.xi_CannotDo T.is_CannotDo_InvalidFile, DL.o_isE T.xi_InvalidForm T.is_InvalidForm_InvalidFile, DL.o_isE T.xi_InvalidFile T.is_InvalidFile_InvalidFile, DL.o_isE T.xi_NoRoom T.is_NoRoom_InvalidFile, DL.o_isE T.xi_WreckError T.is_WreckError_NoRoom, DL.o_isE T.xi_InvalidMachine T.is_InvalidMachine_NoRoom, DL.o_isE T.xi_InvalidDisk T.is_InvalidDisk_NoRoom, DL.o_isE T.xi_InvalidSketch T.is_InvalidSketch_NoRoom, DL.o_isE T.xi_NoSuchDeed T.is_NoSuchDeed_NoRoom, DL.o_isX T.xi_CannotDo T.is_CannotDo_NoRoom, DL.o_isE T.xi_InvalidForm T.is_InvalidForm_NoRoom, DL.o_isE T.xi_InvalidFile T.is_InvalidFile_NoRoom, DL.o_isE T.xi_NoRoom T.is_NoRoom_NoRoom, DL.o_isE T.xi_WreckError T.is_WreckError_InvalidForm, DL.o_isE T.xi_InvalidMachine T.is_InvalidMachine_InvalidForm, DL.o_isE T.xi_InvalidDisk T.is_InvalidDisk_InvalidForm, DL.o_isE T.xi_InvalidSketch T.is_InvalidSketch_InvalidForm, DL.o_isE T.xi_NoSuchDeed T.is_NoSuchDeed_InvalidForm, DL.o_isX T.xi_CannotDo T.is_CannotDo_InvalidForm, DL.o_isE T.xi_InvalidForm T.is_InvalidForm_InvalidForm, DL.o_isE T.xi_InvalidFile T.is_InvalidFile_InvalidForm, DL.o_isE T.xi_NoRoom T.is_NoRoom_InvalidForm, qc, ↓DL.qtd, DL.qtu, ↓DL.qfd, DL.qfu]
    exact ⟨v, xs, rfl, v2, v5, rfl, hx, fun _ a => ⟨by decide, q⟩, fun i' j' e1 h1 e2 h2 => absurd hb (by omega)⟩
  · simp -dsimp only [↓DL.qd, DL.qu, DL.qs, ↓DL.s_seq, mkD, D.key, dgetM, hide, hideS, Slot.fr?, Slot.m?, Slot.put, D.seqs, D.tyN, startD, List.replicate, Nat.reduceSub, Nat.reduceAdd, Nat.reduceLeDiff, wipeD, unw, freeAt, Slot.free, Nat.reduceEqDiff, id_eq, eq_self, c_stripe_begin, c_stripe_end, c_stripe_rebuild, T.ex_WreckError_WreckError, T.ex_InvalidMachine_WreckError, T.ex_InvalidDisk_WreckError, T.ex_InvalidSketch_WreckError, T.ex_NoSuchDeed_WreckError, T.ex_CannotDo_WreckError, T.ex_InvalidForm_WreckError, T.ex_InvalidFile_WreckError, T.ex_NoRoom_WreckError, DL.o_isE T.xi_WreckError T.is_WreckError_InvalidFile, DL.o_isE T.xi_InvalidMachine T.is_InvalidMachine_InvalidFile, DL.o_isE T.xi_InvalidDisk T.is_InvalidDisk_InvalidFile, DL.o_isE T.xi_InvalidSketch T.is_InvalidSketch_InvalidFile, DL.o_isE T.xi_NoSuchDeed T.is_NoSuchDeed_InvalidFile, DL.o_isX T.xi_CannotDo T.is_CannotDo_InvalidFile, DL.o_isE T.xi_InvalidForm T.is_InvalidForm_InvalidFile, DL.o_isE T.xi_InvalidFile T.is_InvalidFile_InvalidFile, DL.o_isE T.xi_NoRoom T.is_NoRoom_InvalidFile, DL.o_isE T.xi_WreckError T.is_WreckError_NoRoom, DL.o_isE T.xi_InvalidMachine T.is_InvalidMachine_NoRoom, DL.o_isE T.xi_InvalidDisk T.is_InvalidDisk_NoRoom, DL.o_isE T.xi_InvalidSketch T.is_InvalidSketch_NoRoom, DL.o_isE T.xi_NoSuchDeed T.is_NoSuchDeed_NoRoom, DL.o_isX T.xi_CannotDo T.is_CannotDo_NoRoom, DL.o_isE T.xi_InvalidForm T.is_InvalidForm_NoRoom, DL.o_isE T.xi_InvalidFile T.is_InvalidFile_NoRoom, DL.o_isE T.xi_NoRoom T.is_NoRoom_NoRoom, DL.o_isE T.xi_WreckError T.is_WreckError_InvalidForm, DL.o_isE T.xi_InvalidMachine T.is_InvalidMachine_InvalidForm, DL.o_isE T.xi_InvalidDisk T.is_InvalidDisk_InvalidForm, DL.o_isE T.xi_InvalidSketch T.is_InvalidSketch_InvalidForm, DL.o_isE T.xi_NoSuchDeed T.is_NoSuchDeed_InvalidForm, DL.o_isX T.xi_CannotDo T.is_CannotDo_InvalidForm, DL.o_isE T.xi_InvalidForm T.is_InvalidForm_InvalidForm, DL.o_isE T.xi_InvalidFile T.is_InvalidFile_InvalidForm, DL.o_isE T.xi_NoRoom T.is_NoRoom_InvalidForm, qc, ↓DL.qtd, DL.qtu, ↓DL.qfd, DL.qfu]
    refine ⟨v, xs, rfl, v2, v5, rfl, hx, fun c => absurd c (by omega), fun i' j' e1 h1 e2 h2 => ?_⟩
    obtain rfl : i' = i := by omega
    obtain rfl : j' = j := by omega
    refine ⟨fun hc => ?_, fun hc a => ⟨by decide, ans_no hc q⟩⟩
    obtain ⟨a, b, c, e, he⟩ := aft_four (d := bDeed i' j') hx.1
    rw [ans_yes hc, he] at q
    rw [he]
    simp -dsimp only [↓DL.qd, DL.qu, DL.qs, ↓DL.s_seq, mkD, D.key, dgetM, hide, hideS, Slot.fr?, Slot.m?, Slot.put, D.seqs, D.tyN, startD, List.replicate, Nat.reduceSub, Nat.reduceAdd, Nat.reduceLeDiff, wipeD, unw, freeAt, Slot.free, Nat.reduceEqDiff, id_eq, eq_self, c_stripe_begin, c_stripe_end, c_stripe_rebuild, T.ex_WreckError_WreckError, T.ex_InvalidMachine_WreckError, T.ex_InvalidDisk_WreckError, T.ex_InvalidSketch_WreckError, T.ex_NoSuchDeed_WreckError, T.ex_CannotDo_WreckError, T.ex_InvalidForm_WreckError, T.ex_InvalidFile_WreckError, T.ex_NoRoom_WreckError, DL.o_isE T.xi_WreckError T.is_WreckError_InvalidFile, DL.o_isE T.xi_InvalidMachine T.is_InvalidMachine_InvalidFile, DL.o_isE T.xi_InvalidDisk T.is_InvalidDisk_InvalidFile, DL.o_isE T.xi_InvalidSketch T.is_InvalidSketch_InvalidFile, DL.o_isE T.xi_NoSuchDeed T.is_NoSuchDeed_InvalidFile, DL.o_isX T.xi_CannotDo T.is_CannotDo_InvalidFile, DL.o_isE T.xi_InvalidForm T.is_InvalidForm_InvalidFile, DL.o_isE T.xi_InvalidFile T.is_InvalidFile_InvalidFile, DL.o_isE T.xi_NoRoom T.is_NoRoom_InvalidFile, DL.o_isE T.xi_WreckError T.is_WreckError_NoRoom, DL.o_isE T.xi_InvalidMachine T.is_InvalidMachine_NoRoom, DL.o_isE T.xi_InvalidDisk T.is_InvalidDisk_NoRoom, DL.o_isE T.xi_InvalidSketch T.is_InvalidSketch_NoRoom, DL.o_isE T.xi_NoSuchDeed T.is_NoSuchDeed_NoRoom, DL.o_isX T.xi_CannotDo T.is_CannotDo_NoRoom, DL.o_isE T.xi_InvalidForm T.is_InvalidForm_NoRoom, DL.o_isE T.xi_InvalidFile T.is_InvalidFile_NoRoom, DL.o_isE T.xi_NoRoom T.is_NoRoom_NoRoom, DL.o_isE T.xi_WreckError T.is_WreckError_InvalidForm, DL.o_isE T.xi_InvalidMachine T.is_InvalidMachine_InvalidForm, DL.o_isE T.xi_InvalidDisk T.is_InvalidDisk_InvalidForm, DL.o_isE T.xi_InvalidSketch T.is_InvalidSketch_InvalidForm, DL.o_isE T.xi_NoSuchDeed T.is_NoSuchDeed_InvalidForm, DL.o_isX T.xi_CannotDo T.is_CannotDo_InvalidForm, DL.o_isE T.xi_InvalidForm T.is_InvalidForm_InvalidForm, DL.o_isE T.xi_InvalidFile T.is_InvalidFile_InvalidForm, DL.o_isE T.xi_NoRoom T.is_NoRoom_InvalidForm, qc, ↓DL.qtd, DL.qtu, ↓DL.qfd, DL.qfu,  tupI, z4]
    exact q
  · simp -dsimp only [↓DL.qd, DL.qu, DL.qs, ↓DL.s_seq, mkD, D.key, dgetM, hide, hideS, Slot.fr?, Slot.m?, Slot.put, D.seqs, D.tyN, startD, List.replicate, Nat.reduceSub, Nat.reduceAdd, Nat.reduceLeDiff, wipeD, unw, freeAt, Slot.free, Nat.reduceEqDiff, id_eq, eq_self, c_stripe_begin, c_stripe_end, c_stripe_rebuild, T.ex_WreckError_WreckError, T.ex_InvalidMachine_WreckError, T.ex_InvalidDisk_WreckError, T.ex_InvalidSketch_WreckError, T.ex_NoSuchDeed_WreckError, T.ex_CannotDo_WreckError, T.ex_InvalidForm_WreckError, T.ex_InvalidFile_WreckError, T.ex_NoRoom_WreckError, DL.o_isE T.xi_WreckError T.is_WreckError_InvalidFile, DL.o_isE T.xi_InvalidMachine T.is_InvalidMachine_InvalidFile, DL.o_isE T.xi_InvalidDisk T.is_InvalidDisk_InvalidFile, DL.o_isE T.xi_InvalidSketch T.is_InvalidSketch_InvalidFile, DL.o_isE T.xi_NoSuchDeed T.is_NoSuchDeed_InvalidFile, DL.o_isX T.xi_CannotDo T.is_CannotDo_InvalidFile, DL.o_isE T.xi_InvalidForm T.is_InvalidForm_InvalidFile, DL.o_isE T.xi_InvalidFile T.is_InvalidFile_InvalidFile, DL.o_isE T.xi_NoRoom T.is_NoRoom_InvalidFile, DL.o_isE T.xi_WreckError T.is_WreckError_NoRoom, DL.o_isE T.xi_InvalidMachine T.is_InvalidMachine_NoRoom, DL.o_isE T.xi_InvalidDisk T.is_InvalidDisk_NoRoom, DL.o_isE T.xi_InvalidSketch T.is_InvalidSketch_NoRoom, DL.o_isE T.xi_NoSuchDeed T.is_NoSuchDeed_NoRoom, DL.o_isX T.xi_CannotDo T.is_CannotDo_NoRoom, DL.o_isE T.xi_InvalidForm T.is_InvalidForm_NoRoom, DL.o_isE T.xi_InvalidFile T.is_InvalidFile_NoRoom, DL.o_isE T.xi_NoRoom T.is_NoRoom_NoRoom, DL.o_isE T.xi_WreckError T.is_WreckError_InvalidForm, DL.o_isE T.xi_InvalidMachine T.is_InvalidMachine_InvalidForm, DL.o_isE T.xi_InvalidDisk T.is_InvalidDisk_InvalidForm, DL.o_isE T.xi_InvalidSketch T.is_InvalidSketch_InvalidForm, DL.o_isE T.xi_NoSuchDeed T.is_NoSuchDeed_InvalidForm, DL.o_isX T.xi_CannotDo T.is_CannotDo_InvalidForm, DL.o_isE T.xi_InvalidForm T.is_InvalidForm_InvalidForm, DL.o_isE T.xi_InvalidFile T.is_InvalidFile_InvalidForm, DL.o_isE T.xi_NoRoom T.is_NoRoom_InvalidForm, qc, ↓DL.qtd, DL.qtu, ↓DL.qfd, DL.qfu]
    refine br_dec (fun h => absurd h (by decide)) (fun _ => ?_)
    simp -dsimp only [↓DL.qd, DL.qu, DL.qs, ↓DL.s_seq, mkD, D.key, dgetM, hide, hideS, Slot.fr?, Slot.m?, Slot.put, D.seqs, D.tyN, startD, List.replicate, Nat.reduceSub, Nat.reduceAdd, Nat.reduceLeDiff, wipeD, unw, freeAt, Slot.free, Nat.reduceEqDiff, id_eq, eq_self, c_stripe_begin, c_stripe_end, c_stripe_rebuild, T.ex_WreckError_WreckError, T.ex_InvalidMachine_WreckError, T.ex_InvalidDisk_WreckError, T.ex_InvalidSketch_WreckError, T.ex_NoSuchDeed_WreckError, T.ex_CannotDo_WreckError, T.ex_InvalidForm_WreckError, T.ex_InvalidFile_WreckError, T.ex_NoRoom_WreckError, DL.o_isE T.xi_WreckError T.is_WreckError_InvalidFile, DL.o_isE T.xi_InvalidMachine T.is_InvalidMachine_InvalidFile, DL.o_isE T.xi_InvalidDisk T.is_InvalidDisk_InvalidFile, DL.o_isE T.xi_InvalidSketch T.is_InvalidSketch_InvalidFile, DL.o_isE T.xi_NoSuchDeed T.is_NoSuchDeed_InvalidFile, DL.o_isX T.xi_CannotDo T.is_CannotDo_InvalidFile, DL.o_isE T.xi_InvalidForm T.is_InvalidForm_InvalidFile, DL.o_isE T.xi_InvalidFile T.is_InvalidFile_InvalidFile, DL.o_isE T.xi_NoRoom T.is_NoRoom_InvalidFile, DL.o_isE T.xi_WreckError T.is_WreckError_NoRoom, DL.o_isE T.xi_InvalidMachine T.is_InvalidMachine_NoRoom, DL.o_isE T.xi_InvalidDisk T.is_InvalidDisk_NoRoom, DL.o_isE T.xi_InvalidSketch T.is_InvalidSketch_NoRoom, DL.o_isE T.xi_NoSuchDeed T.is_NoSuchDeed_NoRoom, DL.o_isX T.xi_CannotDo T.is_CannotDo_NoRoom, DL.o_isE T.xi_InvalidForm T.is_InvalidForm_NoRoom, DL.o_isE T.xi_InvalidFile T.is_InvalidFile_NoRoom, DL.o_isE T.xi_NoRoom T.is_NoRoom_NoRoom, DL.o_isE T.xi_WreckError T.is_WreckError_InvalidForm, DL.o_isE T.xi_InvalidMachine T.is_InvalidMachine_InvalidForm, DL.o_isE T.xi_InvalidDisk T.is_InvalidDisk_InvalidForm, DL.o_isE T.xi_InvalidSketch T.is_InvalidSketch_InvalidForm, DL.o_isE T.xi_NoSuchDeed T.is_NoSuchDeed_InvalidForm, DL.o_isX T.xi_CannotDo T.is_CannotDo_InvalidForm, DL.o_isE T.xi_InvalidForm T.is_InvalidForm_InvalidForm, DL.o_isE T.xi_InvalidFile T.is_InvalidFile_InvalidForm, DL.o_isE T.xi_NoRoom T.is_NoRoom_InvalidForm, qc, ↓DL.qtd, DL.qtu, ↓DL.qfd, DL.qfu]
    refine ⟨v, xs, rfl, v2, v5, rfl, hx, fun i' j' e1 e2 => ?_⟩
    obtain rfl : i' = i := by omega
    obtain rfl : j' = j := by omega
    refine ⟨fun hc => ?_, fun hc a => ⟨by decide, ans_no hc q⟩⟩
    obtain ⟨a, b, c, e, he⟩ := aft_four (d := eDeed v i' j') hx.1
    rw [ans_yes hc, he] at q
    rw [he]
    simp -dsimp only [↓DL.qd, DL.qu, DL.qs, ↓DL.s_seq, mkD, D.key, dgetM, hide, hideS, Slot.fr?, Slot.m?, Slot.put, D.seqs, D.tyN, startD, List.replicate, Nat.reduceSub, Nat.reduceAdd, Nat.reduceLeDiff, wipeD, unw, freeAt, Slot.free, Nat.reduceEqDiff, id_eq, eq_self, c_stripe_begin, c_stripe_end, c_stripe_rebuild, T.ex_WreckError_WreckError, T.ex_InvalidMachine_WreckError, T.ex_InvalidDisk_WreckError, T.ex_InvalidSketch_WreckError, T.ex_NoSuchDeed_WreckError, T.ex_CannotDo_WreckError, T.ex_InvalidForm_WreckError, T.ex_InvalidFile_WreckError, T.ex_NoRoom_WreckError, DL.o_isE T.xi_WreckError T.is_WreckError_InvalidFile, DL.o_isE T.xi_InvalidMachine T.is_InvalidMachine_InvalidFile, DL.o_isE T.xi_InvalidDisk T.is_InvalidDisk_InvalidFile, DL.o_isE T.xi_InvalidSketch T.is_InvalidSketch_InvalidFile, DL.o_isE T.xi_NoSuchDeed T.is_NoSuchDeed_InvalidFile, DL.o_isX T.xi_CannotDo T.is_CannotDo_InvalidFile, DL.o_isE T.xi_InvalidForm T.is_InvalidForm_InvalidFile, DL.o_isE T.xi_InvalidFile T.is_InvalidFile_InvalidFile, DL.o_isE T.xi_NoRoom T.is_NoRoom_InvalidFile, DL.o_isE T.xi_WreckError T.is_WreckError_NoRoom, DL.o_isE T.xi_InvalidMachine T.is_InvalidMachine_NoRoom, DL.o_isE T.xi_InvalidDisk T.is_InvalidDisk_NoRoom, DL.o_isE T.xi_InvalidSketch T.is_InvalidSketch_NoRoom, DL.o_isE T.xi_NoSuchDeed T.is_NoSuchDeed_NoRoom, DL.o_isX T.xi_CannotDo T.is_CannotDo_NoRoom, DL.o_isE T.xi_InvalidForm T.is_InvalidForm_NoRoom, DL.o_isE T.xi_InvalidFile T.is_InvalidFile_NoRoom, DL.o_isE T.xi_NoRoom T.is_NoRoom_NoRoom, DL.o_isE T.xi_WreckError T.is_WreckError_InvalidForm, DL.o_isE T.xi_InvalidMachine T.is_InvalidMachine_InvalidForm, DL.o_isE T.xi_InvalidDisk T.is_InvalidDisk_InvalidForm, DL.o_isE T.xi_InvalidSketch T.is_InvalidSketch_InvalidForm, DL.o_isE T.xi_NoSuchDeed T.is_NoSuchDeed_InvalidForm, DL.o_isX T.xi_CannotDo T.is_CannotDo_InvalidForm, DL.o_isE T.xi_InvalidForm T.is_InvalidForm_InvalidForm, DL.o_isE T.xi_InvalidFile T.is_InvalidFile_InvalidForm, DL.o_isE T.xi_NoRoom T.is_NoRoom_InvalidForm, qc, ↓DL.qtd, DL.qtu, ↓DL.qfd, DL.qfu,  tupI, z4]
    exact q
  · simp -dsimp only [↓DL.qd, DL.qu, DL.qs, ↓DL.s_seq, mkD, D.key, dgetM, hide, hideS, Slot.fr?, Slot.m?, Slot.put, D.seqs, D.tyN, startD, List.replicate, Nat.reduceSub, Nat.reduceAdd, Nat.reduceLeDiff, wipeD, unw, freeAt, Slot.free, Nat.reduceEqDiff, id_eq, eq_self, c_stripe_begin, c_stripe_end, c_stripe_rebuild, T.ex_WreckError_WreckError, T.ex_InvalidMachine_WreckError, T.ex_InvalidDisk_WreckError, T.ex_InvalidSketch_WreckError, T.ex_NoSuchDeed_WreckError, T.ex_CannotDo_WreckError, T.ex_InvalidForm_WreckError, T.ex_InvalidFile_WreckError, T.ex_NoRoom_WreckError, DL.o_isE T.xi_WreckError T.is_WreckError_InvalidFile, DL.o_isE T.xi_InvalidMachine T.is_InvalidMachine_InvalidFile, DL.o_isE T.xi_InvalidDisk T.is_InvalidDisk_InvalidFile, DL.o_isE T.xi_InvalidSketch T.is_InvalidSketch_InvalidFile, DL.o_isE T.xi_NoSuchDeed T.is_NoSuchDeed_InvalidFile, DL.o_isX T.xi_CannotDo T.is_CannotDo_InvalidFile, DL.o_isE T.xi_InvalidForm T.is_InvalidForm_InvalidFile, DL.o_isE T.xi_InvalidFile T.is_InvalidFile_InvalidFile, DL.o_isE T.xi_NoRoom T.is_NoRoom_InvalidFile, DL.o_isE T.xi_WreckError T.is_WreckError_NoRoom, DL.o_isE T.xi_InvalidMachine T.is_InvalidMachine_NoRoom, DL.o_isE T.xi_InvalidDisk T.is_InvalidDisk_NoRoom, DL.o_isE T.xi_InvalidSketch T.is_InvalidSketch_NoRoom, DL.o_isE T.xi_NoSuchDeed T.is_NoSuchDeed_NoRoom, DL.o_isX T.xi_CannotDo T.is_CannotDo_NoRoom, DL.o_isE T.xi_InvalidForm T.is_InvalidForm_NoRoom, DL.o_isE T.xi_InvalidFile T.is_InvalidFile_NoRoom, DL.o_isE T.xi_NoRoom T.is_NoRoom_NoRoom, DL.o_isE T.xi_WreckError T.is_WreckError_InvalidForm, DL.o_isE T.xi_InvalidMachine T.is_InvalidMachine_InvalidForm, DL.o_isE T.xi_InvalidDisk T.is_InvalidDisk_InvalidForm, DL.o_isE T.xi_InvalidSketch T.is_InvalidSketch_InvalidForm, DL.o_isE T.xi_NoSuchDeed T.is_NoSuchDeed_InvalidForm, DL.o_isX T.xi_CannotDo T.is_CannotDo_InvalidForm, DL.o_isE T.xi_InvalidForm T.is_InvalidForm_InvalidForm, DL.o_isE T.xi_InvalidFile T.is_InvalidFile_InvalidForm, DL.o_isE T.xi_NoRoom T.is_NoRoom_InvalidForm, qc, ↓DL.qtd, DL.qtu, ↓DL.qfd, DL.qfu]
    refine br_dec (fun h => absurd h (by decide)) (fun _ => ?_)
    simp -dsimp only [↓DL.qd, DL.qu, DL.qs, ↓DL.s_seq, mkD, D.key, dgetM, hide, hideS, Slot.fr?, Slot.m?, Slot.put, D.seqs, D.tyN, startD, List.replicate, Nat.reduceSub, Nat.reduceAdd, Nat.reduceLeDiff, wipeD, unw, freeAt, Slot.free, Nat.reduceEqDiff, id_eq, eq_self, c_stripe_begin, c_stripe_end, c_stripe_rebuild, T.ex_WreckError_WreckError, T.ex_InvalidMachine_WreckError, T.ex_InvalidDisk_WreckError, T.ex_InvalidSketch_WreckError, T.ex_NoSuchDeed_WreckError, T.ex_CannotDo_WreckError, T.ex_InvalidForm_WreckError, T.ex_InvalidFile_WreckError, T.ex_NoRoom_WreckError, DL.o_isE T.xi_WreckError T.is_WreckError_InvalidFile, DL.o_isE T.xi_InvalidMachine T.is_InvalidMachine_InvalidFile, DL.o_isE T.xi_InvalidDisk T.is_InvalidDisk_InvalidFile, DL.o_isE T.xi_InvalidSketch T.is_InvalidSketch_InvalidFile, DL.o_isE T.xi_NoSuchDeed T.is_NoSuchDeed_InvalidFile, DL.o_isX T.xi_CannotDo T.is_CannotDo_InvalidFile, DL.o_isE T.xi_InvalidForm T.is_InvalidForm_InvalidFile, DL.o_isE T.xi_InvalidFile T.is_InvalidFile_InvalidFile, DL.o_isE T.xi_NoRoom T.is_NoRoom_InvalidFile, DL.o_isE T.xi_WreckError T.is_WreckError_NoRoom, DL.o_isE T.xi_InvalidMachine T.is_InvalidMachine_NoRoom, DL.o_isE T.xi_InvalidDisk T.is_InvalidDisk_NoRoom, DL.o_isE T.xi_InvalidSketch T.is_InvalidSketch_NoRoom, DL.o_isE T.xi_NoSuchDeed T.is_NoSuchDeed_NoRoom, DL.o_isX T.xi_CannotDo T.is_CannotDo_NoRoom, DL.o_isE T.xi_InvalidForm T.is_InvalidForm_NoRoom, DL.o_isE T.xi_InvalidFile T.is_InvalidFile_NoRoom, DL.o_isE T.xi_NoRoom T.is_NoRoom_NoRoom, DL.o_isE T.xi_WreckError T.is_WreckError_InvalidForm, DL.o_isE T.xi_InvalidMachine T.is_InvalidMachine_InvalidForm, DL.o_isE T.xi_InvalidDisk T.is_InvalidDisk_InvalidForm, DL.o_isE T.xi_InvalidSketch T.is_InvalidSketch_InvalidForm, DL.o_isE T.xi_NoSuchDeed T.is_NoSuchDeed_InvalidForm, DL.o_isX T.xi_CannotDo T.is_CannotDo_InvalidForm, DL.o_isE T.xi_InvalidForm T.is_InvalidForm_InvalidForm, DL.o_isE T.xi_InvalidFile T.is_InvalidFile_InvalidForm, DL.o_isE T.xi_NoRoom T.is_NoRoom_InvalidForm, qc, ↓DL.qtd, DL.qtu, ↓DL.qfd, DL.qfu]
    refine br_dec (fun h => absurd h (by decide)) (fun _ => ?_)
    simp -dsimp only [↓DL.qd, DL.qu, DL.qs, ↓DL.s_seq, mkD, D.key, dgetM, hide, hideS, Slot.fr?, Slot.m?, Slot.put, D.seqs, D.tyN, startD, List.replicate, Nat.reduceSub, Nat.reduceAdd, Nat.reduceLeDiff, wipeD, unw, freeAt, Slot.free, Nat.reduceEqDiff, id_eq, eq_self, c_stripe_begin, c_stripe_end, c_stripe_rebuild, T.ex_WreckError_WreckError, T.ex_InvalidMachine_WreckError, T.ex_InvalidDisk_WreckError, T.ex_InvalidSketch_WreckError, T.ex_NoSuchDeed_WreckError, T.ex_CannotDo_WreckError, T.ex_InvalidForm_WreckError, T.ex_InvalidFile_WreckError, T.ex_NoRoom_WreckError, DL.o_isE T.xi_WreckError T.is_WreckError_InvalidFile, DL.o_isE T.xi_InvalidMachine T.is_InvalidMachine_InvalidFile, DL.o_isE T.xi_InvalidDisk T.is_InvalidDisk_InvalidFile, DL.o_isE T.xi_InvalidSketch T.is_InvalidSketch_InvalidFile, DL.o_isE T.xi_NoSuchDeed T.is_NoSuchDeed_InvalidFile, DL.o_isX T.xi_CannotDo T.is_CannotDo_InvalidFile, DL.o_isE T.xi_InvalidForm T.is_InvalidForm_InvalidFile, DL.o_isE T.xi_InvalidFile T.is_InvalidFile_InvalidFile, DL.o_isE T.xi_NoRoom T.is_NoRoom_InvalidFile, DL.o_isE T.xi_WreckError T.is_WreckError_NoRoom, DL.o_isE T.xi_InvalidMachine T.is_InvalidMachine_NoRoom, DL.o_isE T.xi_InvalidDisk T.is_InvalidDisk_NoRoom, DL.o_isE T.xi_InvalidSketch T.is_InvalidSketch_NoRoom, DL.o_isE T.xi_NoSuchDeed T.is_NoSuchDeed_NoRoom, DL.o_isX T.xi_CannotDo T.is_CannotDo_NoRoom, DL.o_isE T.xi_InvalidForm T.is_InvalidForm_NoRoom, DL.o_isE T.xi_InvalidFile T.is_InvalidFile_NoRoom, DL.o_isE T.xi_NoRoom T.is_NoRoom_NoRoom, DL.o_isE T.xi_WreckError T.is_WreckError_InvalidForm, DL.o_isE T.xi_InvalidMachine T.is_InvalidMachine_InvalidForm, DL.o_isE T.xi_InvalidDisk T.is_InvalidDisk_InvalidForm, DL.o_isE T.xi_InvalidSketch T.is_InvalidSketch_InvalidForm, DL.o_isE T.xi_NoSuchDeed T.is_NoSuchDeed_InvalidForm, DL.o_isX T.xi_CannotDo T.is_CannotDo_InvalidForm, DL.o_isE T.xi_InvalidForm T.is_InvalidForm_InvalidForm, DL.o_isE T.xi_InvalidFile T.is_InvalidFile_InvalidForm, DL.o_isE T.xi_NoRoom T.is_NoRoom_InvalidForm, qc, ↓DL.qtd, DL.qtu, ↓DL.qfd, DL.qfu]
    exact ⟨v, xs, rfl, v2, v5, rfl, hx, fun _ a => ⟨by decide, q⟩, fun i' o' p' e1 h1 e2 h2 => absurd hb (by omega)⟩
  · simp -dsimp only [↓DL.qd, DL.qu, DL.qs, ↓DL.s_seq, mkD, D.key, dgetM, hide, hideS, Slot.fr?, Slot.m?, Slot.put, D.seqs, D.tyN, startD, List.replicate, Nat.reduceSub, Nat.reduceAdd, Nat.reduceLeDiff, wipeD, unw, freeAt, Slot.free, Nat.reduceEqDiff, id_eq, eq_self, c_stripe_begin, c_stripe_end, c_stripe_rebuild, T.ex_WreckError_WreckError, T.ex_InvalidMachine_WreckError, T.ex_InvalidDisk_WreckError, T.ex_InvalidSketch_WreckError, T.ex_NoSuchDeed_WreckError, T.ex_CannotDo_WreckError, T.ex_InvalidForm_WreckError, T.ex_InvalidFile_WreckError, T.ex_NoRoom_WreckError, DL.o_isE T.xi_WreckError T.is_WreckError_InvalidFile, DL.o_isE T.xi_InvalidMachine T.is_InvalidMachine_InvalidFile, DL.o_isE T.xi_InvalidDisk T.is_InvalidDisk_InvalidFile, DL.o_isE T.xi_InvalidSketch T.is_InvalidSketch_InvalidFile, DL.o_isE T.xi_NoSuchDeed T.is_NoSuchDeed_InvalidFile, DL.o_isX T.xi_CannotDo T.is_CannotDo_InvalidFile, DL.o_isE T.xi_InvalidForm T.is_InvalidForm_InvalidFile, DL.o_isE T.xi_InvalidFile T.is_InvalidFile_InvalidFile, DL.o_isE T.xi_NoRoom T.is_NoRoom_InvalidFile, DL.o_isE T.xi_WreckError T.is_WreckError_NoRoom, DL.o_isE T.xi_InvalidMachine T.is_InvalidMachine_NoRoom, DL.o_isE T.xi_InvalidDisk T.is_InvalidDisk_NoRoom, DL.o_isE T.xi_InvalidSketch T.is_InvalidSketch_NoRoom, DL.o_isE T.xi_NoSuchDeed T.is_NoSuchDeed_NoRoom, DL.o_isX T.xi_CannotDo T.is_CannotDo_NoRoom, DL.o_isE T.xi_InvalidForm T.is_InvalidForm_NoRoom, DL.o_isE T.xi_InvalidFile T.is_InvalidFile_NoRoom, DL.o_isE T.xi_NoRoom T.is_NoRoom_NoRoom, DL.o_isE T.xi_WreckError T.is_WreckError_InvalidForm, DL.o_isE T.xi_InvalidMachine T.is_InvalidMachine_InvalidForm, DL.o_isE T.xi_InvalidDisk T.is_InvalidDisk_InvalidForm, DL.o_isE T.xi_InvalidSketch T.is_InvalidSketch_InvalidForm, DL.o_isE T.xi_NoSuchDeed T.is_NoSuchDeed_InvalidForm, DL.o_isX T.xi_CannotDo T.is_CannotDo_InvalidForm, DL.o_isE T.xi_InvalidForm T.is_InvalidForm_InvalidForm, DL.o_isE T.xi_InvalidFile T.is_InvalidFile_InvalidForm, DL.o_isE T.xi_NoRoom T.is_NoRoom_InvalidForm, qc, ↓DL.qtd, DL.qtu, ↓DL.qfd, DL.qfu]
    refine br_dec (fun h => absurd h (by decide)) (fun _ => ?_)
    simp -dsimp only [↓DL.qd, DL.qu, DL.qs, ↓DL.s_seq, mkD, D.key, dgetM, hide, hideS, Slot.fr?, Slot.m?, Slot.put, D.seqs, D.tyN, startD, List.replicate, Nat.reduceSub, Nat.reduceAdd, Nat.reduceLeDiff, wipeD, unw, freeAt, Slot.free, Nat.reduceEqDiff, id_eq, eq_self, c_stripe_begin, c_stripe_end, c_stripe_rebuild, T.ex_WreckError_WreckError, T.ex_InvalidMachine_WreckError, T.ex_InvalidDisk_WreckError, T.ex_InvalidSketch_WreckError, T.ex_NoSuchDeed_WreckError, T.ex_CannotDo_WreckError, T.ex_InvalidForm_WreckError, T.ex_InvalidFile_WreckError, T.ex_NoRoom_WreckError, DL.o_isE T.xi_WreckError T.is_WreckError_InvalidFile, DL.o_isE T.xi_InvalidMachine T.is_InvalidMachine_InvalidFile, DL.o_isE T.xi_InvalidDisk T.is_InvalidDisk_InvalidFile, DL.o_isE T.xi_InvalidSketch T.is_InvalidSketch_InvalidFile, DL.o_isE T.xi_NoSuchDeed T.is_NoSuchDeed_InvalidFile, DL.o_isX T.xi_CannotDo T.is_CannotDo_InvalidFile, DL.o_isE T.xi_InvalidForm T.is_InvalidForm_InvalidFile, DL.o_isE T.xi_InvalidFile T.is_InvalidFile_InvalidFile, DL.o_isE T.xi_NoRoom T.is_NoRoom_InvalidFile, DL.o_isE T.xi_WreckError T.is_WreckError_NoRoom, DL.o_isE T.xi_InvalidMachine T.is_InvalidMachine_NoRoom, DL.o_isE T.xi_InvalidDisk T.is_InvalidDisk_NoRoom, DL.o_isE T.xi_InvalidSketch T.is_InvalidSketch_NoRoom, DL.o_isE T.xi_NoSuchDeed T.is_NoSuchDeed_NoRoom, DL.o_isX T.xi_CannotDo T.is_CannotDo_NoRoom, DL.o_isE T.xi_InvalidForm T.is_InvalidForm_NoRoom, DL.o_isE T.xi_InvalidFile T.is_InvalidFile_NoRoom, DL.o_isE T.xi_NoRoom T.is_NoRoom_NoRoom, DL.o_isE T.xi_WreckError T.is_WreckError_InvalidForm, DL.o_isE T.xi_InvalidMachine T.is_InvalidMachine_InvalidForm, DL.o_isE T.xi_InvalidDisk T.is_InvalidDisk_InvalidForm, DL.o_isE T.xi_InvalidSketch T.is_InvalidSketch_InvalidForm, DL.o_isE T.xi_NoSuchDeed T.is_NoSuchDeed_InvalidForm, DL.o_isX T.xi_CannotDo T.is_CannotDo_InvalidForm, DL.o_isE T.xi_InvalidForm T.is_InvalidForm_InvalidForm, DL.o_isE T.xi_InvalidFile T.is_InvalidFile_InvalidForm, DL.o_isE T.xi_NoRoom T.is_NoRoom_InvalidForm, qc, ↓DL.qtd, DL.qtu, ↓DL.qfd, DL.qfu]
    refine br_dec (fun h => absurd h (by decide)) (fun _ => ?_)
    simp -dsimp only [↓DL.qd, DL.qu, DL.qs, ↓DL.s_seq, mkD, D.key, dgetM, hide, hideS, Slot.fr?, Slot.m?, Slot.put, D.seqs, D.tyN, startD, List.replicate, Nat.reduceSub, Nat.reduceAdd, Nat.reduceLeDiff, wipeD, unw, freeAt, Slot.free, Nat.reduceEqDiff, id_eq, eq_self, c_stripe_begin, c_stripe_end, c_stripe_rebuild, T.ex_WreckError_WreckError, T.ex_InvalidMachine_WreckError, T.ex_InvalidDisk_WreckError, T.ex_InvalidSketch_WreckError, T.ex_NoSuchDeed_WreckError, T.ex_CannotDo_WreckError, T.ex_InvalidForm_WreckError, T.ex_InvalidFile_WreckError, T.ex_NoRoom_WreckError, DL.o_isE T.xi_WreckError T.is_WreckError_InvalidFile, DL.o_isE T.xi_InvalidMachine T.is_InvalidMachine_InvalidFile, DL.o_isE T.xi_InvalidDisk T.is_InvalidDisk_InvalidFile, DL.o_isE T.xi_InvalidSketch T.is_InvalidSketch_InvalidFile, DL.o_isE T.xi_NoSuchDeed T.is_NoSuchDeed_InvalidFile, DL.o_isX T.xi_CannotDo T.is_CannotDo_InvalidFile, DL.o_isE T.xi_InvalidForm T.is_InvalidForm_InvalidFile, DL.o_isE T.xi_InvalidFile T.is_InvalidFile_InvalidFile, DL.o_isE T.xi_NoRoom T.is_NoRoom_InvalidFile, DL.o_isE T.xi_WreckError T.is_WreckError_NoRoom, DL.o_isE T.xi_InvalidMachine T.is_InvalidMachine_NoRoom, DL.o_isE T.xi_InvalidDisk T.is_InvalidDisk_NoRoom, DL.o_isE T.xi_InvalidSketch T.is_InvalidSketch_NoRoom, DL.o_isE T.xi_NoSuchDeed T.is_NoSuchDeed_NoRoom, DL.o_isX T.xi_CannotDo T.is_CannotDo_NoRoom, DL.o_isE T.xi_InvalidForm T.is_InvalidForm_NoRoom, DL.o_isE T.xi_InvalidFile T.is_InvalidFile_NoRoom, DL.o_isE T.xi_NoRoom T.is_NoRoom_NoRoom, DL.o_isE T.xi_WreckError T.is_WreckError_InvalidForm, DL.o_isE T.xi_InvalidMachine T.is_InvalidMachine_InvalidForm, DL.o_isE T.xi_InvalidDisk T.is_InvalidDisk_InvalidForm, DL.o_isE T.xi_InvalidSketch T.is_InvalidSketch_InvalidForm, DL.o_isE T.xi_NoSuchDeed T.is_NoSuchDeed_InvalidForm, DL.o_isX T.xi_CannotDo T.is_CannotDo_InvalidForm, DL.o_isE T.xi_InvalidForm T.is_InvalidForm_InvalidForm, DL.o_isE T.xi_InvalidFile T.is_InvalidFile_InvalidForm, DL.o_isE T.xi_NoRoom T.is_NoRoom_InvalidForm, qc, ↓DL.qtd, DL.qtu, ↓DL.qfd, DL.qfu]
    refine ⟨v, xs, rfl, v2, v5, rfl, hx, fun c => absurd c (by omega), fun i' o' p' e1 h1 e2 e3 => ?_⟩
    obtain rfl : i' = i := by omega
    obtain rfl : o' = o := by omega
    obtain rfl : p' = p := by omega
    refine ⟨fun hc => ?_, fun hc a => ⟨by decide, ans_no hc q⟩⟩
    obtain ⟨a, b, c, e, he⟩ := aft_four (d := rDeed v i' o' p') hx.1
    rw [ans_yes hc, he] at q
    rw [he]
    simp -dsimp only [↓DL.qd, DL.qu, DL.qs, ↓DL.s_seq, mkD, D.key, dgetM, hide, hideS, Slot.fr?, Slot.m?, Slot.put, D.seqs, D.tyN, startD, List.replicate, Nat.reduceSub, Nat.reduceAdd, Nat.reduceLeDiff, wipeD, unw, freeAt, Slot.free, Nat.reduceEqDiff, id_eq, eq_self, c_stripe_begin, c_stripe_end, c_stripe_rebuild, T.ex_WreckError_WreckError, T.ex_InvalidMachine_WreckError, T.ex_InvalidDisk_WreckError, T.ex_InvalidSketch_WreckError, T.ex_NoSuchDeed_WreckError, T.ex_CannotDo_WreckError, T.ex_InvalidForm_WreckError, T.ex_InvalidFile_WreckError, T.ex_NoRoom_WreckError, DL.o_isE T.xi_WreckError T.is_WreckError_InvalidFile, DL.o_isE T.xi_InvalidMachine T.is_InvalidMachine_InvalidFile, DL.o_isE T.xi_InvalidDisk T.is_InvalidDisk_InvalidFile, DL.o_isE T.xi_InvalidSketch T.is_InvalidSketch_InvalidFile, DL.o_isE T.xi_NoSuchDeed T.is_NoSuchDeed_InvalidFile, DL.o_isX T.xi_CannotDo T.is_CannotDo_InvalidFile, DL.o_isE T.xi_InvalidForm T.is_InvalidForm_InvalidFile, DL.o_isE T.xi_InvalidFile T.is_InvalidFile_InvalidFile, DL.o_isE T.xi_NoRoom T.is_NoRoom_InvalidFile, DL.o_isE T.xi_WreckError T.is_WreckError_NoRoom, DL.o_isE T.xi_InvalidMachine T.is_InvalidMachine_NoRoom, DL.o_isE T.xi_InvalidDisk T.is_InvalidDisk_NoRoom, DL.o_isE T.xi_InvalidSketch T.is_InvalidSketch_NoRoom, DL.o_isE T.xi_NoSuchDeed T.is_NoSuchDeed_NoRoom, DL.o_isX T.xi_CannotDo T.is_CannotDo_NoRoom, DL.o_isE T.xi_InvalidForm T.is_InvalidForm_NoRoom, DL.o_isE T.xi_InvalidFile T.is_InvalidFile_NoRoom, DL.o_isE T.xi_NoRoom T.is_NoRoom_NoRoom, DL.o_isE T.xi_WreckError T.is_WreckError_InvalidForm, DL.o_isE T.xi_InvalidMachine T.is_InvalidMachine_InvalidForm, DL.o_isE T.xi_InvalidDisk T.is_InvalidDisk_InvalidForm, DL.o_isE T.xi_InvalidSketch T.is_InvalidSketch_InvalidForm, DL.o_isE T.xi_NoSuchDeed T.is_NoSuchDeed_InvalidForm, DL.o_isX T.xi_CannotDo T.is_CannotDo_InvalidForm, DL.o_isE T.xi_InvalidForm T.is_InvalidForm_InvalidForm, DL.o_isE T.xi_InvalidFile T.is_InvalidFile_InvalidForm, DL.o_isE T.xi_NoRoom T.is_NoRoom_InvalidForm, qc, ↓DL.qtd, DL.qtu, ↓DL.qfd, DL.qfu,  tupI, z4]
    exact q
theorem ok_room : okD 1 roomD := .tup fun d hd => by
  simp only [List.mem_cons, List.not_mem_nil, or_false] at hd
  rcases hd with rfl | rfl | rfl
  · exact okD.str (by decide +kernel)
  · exact okD.bl _
  · exact okD.bl _
theorem ok_bad : okD 1 badD := .tup fun d hd => by
  simp only [List.mem_cons, List.not_mem_nil, or_false] at hd
  rcases hd with rfl | rfl | rfl
  · exact okD.str (by decide +kernel)
  · exact okD.bl _
  · exact okD.bl _
theorem bq_eq : ∀ n x : _root_.Fin 6, Str.ofString "b" ++ Str.ofString (toString (n.val : Int)) ++ Str.ofString (toString (x.val : Int)) = nmOf "b" [n.val, x.val] := by decide +kernel
theorem bq_len : ∀ n x : _root_.Fin 6, (Str.ofString "b").length + (Str.ofString (toString (n.val : Int))).length ≤ sizeLine ∧ (Str.ofString "b" ++ Str.ofString (toString (n.val : Int))).length + (Str.ofString (toString (x.val : Int))).length ≤ sizeLine := by decide +kernel
theorem rq_eq : ∀ n x y : _root_.Fin 6, Str.ofString "r" ++ Str.ofString (toString (n.val : Int)) ++ Str.ofString (toString (x.val : Int)) ++ Str.ofString (toString (y.val : Int)) = nmOf "r" [n.val, x.val, y.val] := by decide +kernel
theorem rq_len : ∀ n x y : _root_.Fin 6, (Str.ofString "r").length + (Str.ofString (toString (n.val : Int))).length ≤ sizeLine ∧ (Str.ofString "r" ++ Str.ofString (toString (n.val : Int))).length + (Str.ofString (toString (x.val : Int))).length ≤ sizeLine ∧ (Str.ofString "r" ++ Str.ofString (toString (n.val : Int)) ++ Str.ofString (toString (x.val : Int))).length + (Str.ofString (toString (y.val : Int))).length ≤ sizeLine := by decide +kernel
theorem st_ans (d : Deed) (xs : List Int) : (optI (if can d xs = true then some (aft d xs) else none) = .non ∧ ansD d xs = roomD) ∨ ∃ l : List Int, optI (if can d xs = true then some (aft d xs) else none) = tupI l ∧ ansD d xs = tupI l := by
  unfold ansD
  by_cases h : can d xs = true
  · rw [if_pos h, if_pos h]; exact .inr ⟨_, rfl, rfl⟩
  · rw [if_neg h, if_neg h]; exact .inl ⟨rfl, rfl⟩
theorem mem_b {v i j : Nat} (hi : i < 2) (hj : j < v) : bDeed i j ∈ (SM v).ds := List.mem_append_left _ (List.mem_append_left _ (List.mem_flatMap.mpr ⟨i, List.mem_range.mpr hi, List.mem_map.mpr ⟨j, List.mem_range.mpr hj, rfl⟩⟩))
theorem mem_e {v i j : Nat} (hi : i < v) (hj : j < v) : eDeed v i j ∈ (SM v).ds := List.mem_append_left _ (List.mem_append_right _ (List.mem_flatMap.mpr ⟨i, List.mem_range.mpr hi, List.mem_map.mpr ⟨j, List.mem_range.mpr hj, rfl⟩⟩))
theorem mem_r {v i o p : Nat} (hi : i < 2) (ho : o < v) (hp : p < v) : rDeed v i o p ∈ (SM v).ds := List.mem_append_right _ (List.mem_flatMap.mpr ⟨i, List.mem_range.mpr hi, List.mem_flatMap.mpr ⟨o, List.mem_range.mpr ho, List.mem_map.mpr ⟨p, List.mem_range.mpr hp, rfl⟩⟩⟩)
def c__law_is_right (C_StripeForm : Addr) : CT
  | [.fz f, .fz (.int vv), .fz (.tup x), .fz (.int y)], R, _ => ∃ (v j : Nat) (xs : List Int), f = formD C_StripeForm v ∧ vv = (v : Int) ∧ 2 ≤ v ∧ v ≤ 5 ∧ x = xs.map .int ∧ dk (SM v).sz xs ∧ y = (j : Int) ∧ j < v ∧ R (.fz (.bl true)) []
  | _, _, _ => False
theorem sc__law_is_right : FnScope N__law_is_right ["form", "values", "disk", "value"] (defScope s__law_is_right) := ⟨rfl, rfl, rfl, by decide +kernel, rfl, by decide +kernel, by decide +kernel⟩
theorem ok__law_is_right (T : Txt K mg P w C_WreckError C_InvalidMachine C_InvalidDisk C_InvalidSketch C_NoSuchDeed C_CannotDo C_InvalidForm C_InvalidFile C_NoRoom C_Machine C_StripeForm) (G__law_stripe : FnAt P w K mg base TB 1 "_law_stripe" ["values", "disk", "name"] false c__law_stripe) (G__law_tried : FnAt P w K mg base TB 3 "_law_tried" ["form", "disk", "question", "number", "value"] false (c__law_tried C_StripeForm)) (F : TopFn K mg "_law_is_right" s__law_is_right ["form", "values", "disk", "value"]) : FnAt P w K mg base TB 4 "_law_is_right" ["form", "values", "disk", "value"] false (c__law_is_right C_StripeForm) := by
  have nd := sc__law_is_right.nd
  refine fnAt F sc__law_is_right (fun ms R X h => by unfold c__law_is_right at h; split at h <;> first | rfl | exact h.elim) (fun h => by cases h) fun f cdv A outer s H E x0 Xd hr => ?_
  refine ⟨_, _, (dss_cons (ds_set (i := 4) nd rfl (by first | exact Or.inl rfl | exact Or.inr rfl) (de_tup (da_cons de_str (da_cons de_bl (da_cons de_bl da_nil)))))
      (dss_cons (ds_for passD rfl (di_rng1 (by rfl) T.n_range (da_cons de_int da_nil)) (dg_name (i := 5) nd rfl (by first | exact Or.inl rfl | exact Or.inr rfl))
      (dss_cons (ds_set (i := 8) nd rfl (by first | exact Or.inl rfl | exact Or.inr rfl) (de_callN G__law_stripe (hr.mono (by decide)) rfl rfl takesD (da_cons (dv 1) (da_cons (dv 2) (da_cons (de_op (op_addA rfl) od_add (de_op (op_addA rfl) od_add de_str (de_callTy call_str_int cd_str (by rfl) T.n_str bo_str (da_cons (dv 5) da_nil))) (de_callTy call_str_int cd_str (by rfl) T.n_str bo_str (da_cons (dv 3) da_nil))) da_nil)))))
      (dss_cons (ds_set (i := 9) nd rfl (by first | exact Or.inl rfl | exact Or.inr rfl) (de_callN G__law_stripe (hr.mono (by decide)) rfl rfl takesD (da_cons (dv 1) (da_cons (dv 2) (da_cons (de_op (op_addA rfl) od_add (de_op (op_addA rfl) od_add (de_op (op_addA rfl) od_add de_str (de_callTy call_str_int cd_str (by rfl) T.n_str bo_str (da_cons (dv 5) da_nil))) (de_callTy call_str_int cd_str (by rfl) T.n_str bo_str (da_cons (de_ix rfl (hu1 hr) (dv 2) (de_op op_sub od_sub de_int (dv 5))) da_nil))) (de_callTy call_str_int cd_str (by rfl) T.n_str bo_str (da_cons (de_ix rfl (hu1 hr) (dv 2) de_int) da_nil))) da_nil)))))
      (dss_cons (ds_if (dt_cmp (op_neA rfl (hu64 hr)) od_ne (de_callN G__law_tried hr rfl rfl takesD (da_cons (dv 0) (da_cons (dv 2) (da_cons de_int (da_cons (dv 5) (da_cons (dv 3) da_nil)))))) (de_ife (dt_cmp op_isN od_is (dv 8) de_non (nomark _)) (dv 4) (dv 8)) (nomark _))
      (dss_one (ds_ret de_bl))
      dss_nil)
      (dss_one (ds_if (dt_cmp (op_neA rfl (hu64 hr)) od_ne (de_callN G__law_tried hr rfl rfl takesD (da_cons (dv 0) (da_cons (dv 2) (da_cons de_int (da_cons (dv 5) (da_cons de_int da_nil)))))) (de_ife (dt_cmp op_isN od_is (dv 9) de_non (nomark _)) (dv 4) (dv 9)) (nomark _))
      (dss_one (ds_ret de_bl))
      dss_nil))))))
      (dss_cons (ds_set (i := 6) nd rfl (by first | exact Or.inl rfl | exact Or.inr rfl) (de_callN G__law_stripe (hr.mono (by decide)) rfl rfl takesD (da_cons (dv 1) (da_cons (dv 2) (da_cons (de_op (op_addA rfl) od_add (de_op (op_addA rfl) od_add de_str (de_callTy call_str_int cd_str (by rfl) T.n_str bo_str (da_cons (de_ix rfl (hu1 hr) (dv 2) de_int) da_nil))) (de_callTy call_str_int cd_str (by rfl) T.n_str bo_str (da_cons (de_ix rfl (hu1 hr) (dv 2) de_int) da_nil))) da_nil)))))
      (dss_cons (ds_if (dt_cmp (op_neA rfl (hu64 hr)) od_ne (de_callN G__law_tried hr rfl rfl takesD (da_cons (dv 0) (da_cons (dv 2) (da_cons de_int (da_cons de_int (da_cons de_int da_nil)))))) (de_ife (dt_cmp op_isN od_is (dv 6) de_non (nomark _)) (dv 4) (dv 6)) (nomark _))
      (dss_one (ds_ret de_bl))
      dss_nil)
      (dss_cons (ds_set (i := 7) nd rfl (by first | exact Or.inl rfl | exact Or.inr rfl) (de_tup (da_cons de_str (da_cons de_bl (da_cons de_bl da_nil)))))
      (dss_cons (ds_if (DW.pt (dw_or (dt_cmp (op_neA rfl (hu64 hr)) od_ne (de_callN G__law_tried hr rfl rfl takesD (da_cons (dv 0) (da_cons (dv 2) (da_cons de_int (da_cons de_int (da_cons de_int da_nil)))))) (dv 7) (nomark _)) (dw_or (dt_cmp (op_neA rfl (hu64 hr)) od_ne (de_callN G__law_tried hr rfl rfl takesD (da_cons (dv 0) (da_cons (dv 2) (da_cons de_int (da_cons de_int (da_cons (dv 1) da_nil)))))) (dv 7) (nomark _)) (dw_or1 (dt_cmp (op_neA rfl (hu64 hr)) od_ne (de_callN G__law_tried hr rfl rfl takesD (da_cons (dv 0) (da_cons (dv 2) (da_cons de_int (da_cons de_int (da_cons (de_neg de_int) da_nil)))))) (dv 7) (nomark _))))))
      (dss_one (ds_ret de_bl))
      dss_nil)
      (dss_one (ds_ret (de_cmp (op_eqA rfl (hu64 hr)) od_eq (de_callN G__law_tried hr rfl rfl takesD (da_cons (dv 0) (da_cons (dv 2) (da_cons de_int (da_cons (de_neg de_int) (da_cons de_int da_nil)))))) (dv 7) (nomark _)))))))))), ?_⟩
  intro ms Rd h
  unfold c__law_is_right at h
  split at h <;> first | exact (show False from h).elim | skip
  rename_i f vv x y
  obtain ⟨v, j, xs, rfl, rfl, v2, v5, rfl, hx, rfl, hj, q⟩ := h
  have hxs := hx
  obtain ⟨x0, x1, x2, x3, exs⟩ : ∃ a b c e, xs = [a, b, c, e] := by
    have hl := hx.1
    match xs, hl with
    | [a, b, c, e], _ => exact ⟨a, b, c, e, rfl⟩
  have b0 := hx.2 0 (by show 0 < 4; decide)
  have b1 := hx.2 1 (by show 1 < 4; decide)
  have b2 := hx.2 2 (by show 2 < 4; decide)
  rw [SM_sz] at b0 b1 b2
  have e0 : gi xs 0 = x0 := by rw [exs]; rfl
  have e1 : gi xs 1 = x1 := by rw [exs]; rfl
  have e2 : gi xs 2 = x2 := by rw [exs]; rfl
  rw [e0] at b0
  rw [e1] at b1
  rw [e2] at b2
  have b0 : 0 ≤ x0 ∧ x0 < v := b0
  have b1 : 0 ≤ x1 ∧ x1 < v := b1
  have b2 : 0 ≤ x2 ∧ x2 < v := b2
  obtain ⟨d0, rfl⟩ : ∃ i : Nat, x0 = (i : Int) := ⟨x0.toNat, by omega⟩
  obtain ⟨d1, rfl⟩ : ∃ i : Nat, x1 = (i : Int) := ⟨x1.toNat, by omega⟩
  obtain ⟨p, rfl⟩ : ∃ i : Nat, x2 = (i : Int) := ⟨x2.toNat, by omega⟩
  have a0 : atI (xs.map D.int) 0 = some (.int (d0 : Int)) := by rw [exs]; rfl
  have a1 : atI (xs.map D.int) 1 = some (.int (d1 : Int)) := by rw [exs]; rfl
  have a2 : atI (xs.map D.int) 2 = some (.int (p : Int)) := by rw [exs]; rfl
  simp -dsimp only [↓DL.qd, DL.qu, DL.qs, ↓DL.s_seq, mkD, D.key, dgetM, hide, hideS, Slot.fr?, Slot.m?, Slot.put, D.seqs, D.tyN, startD, List.replicate, Nat.reduceSub, Nat.reduceAdd, Nat.reduceLeDiff, wipeD, unw, freeAt, Slot.free, Nat.reduceEqDiff, id_eq, eq_self, c__law_stripe, c__law_tried, qc, ↓DL.qtd, DL.qtu, ↓DL.qfd, DL.qfu]
  refine ⟨by decide, by decide, by decide, for_rng (fun _ s => ∃ a b c : DL.Slot, s = [.v (.fz (formD C_StripeForm v)), .v (.fz (.int (v : Int))), .v (.fz (.tup (xs.map .int))), .v (.fz (.int (j : Int))), .v (.fz roomD), a, .un, .un, b, c] ∧ a.pinned = false ∧ b.pinned = false ∧ c.pinned = false) ⟨.un, .un, .un, rfl, rfl, rfl, rfl⟩ ?_ ?_⟩
  · rintro i s hi ⟨a, b, c, rfl, ha, hb, hc⟩ N B R hN - -
    rw [Int.zero_add]
    have hi : i < 2 := hi
    obtain ⟨o, ho, hov, ato⟩ : ∃ o : Nat, gi xs (1 - i) = (o : Int) ∧ o < v ∧ atI (xs.map D.int) ((1 : Int) - (i : Int)) = some (.int (o : Int)) := by
      rcases (show i = 0 ∨ i = 1 by omega) with rfl | rfl
      · exact ⟨d1, e1, by omega, a1⟩
      · exact ⟨d0, e0, by omega, a0⟩
    simp -dsimp only [↓DL.qd, DL.qu, DL.qs, ↓DL.s_seq, mkD, D.key, dgetM, hide, hideS, Slot.fr?, Slot.m?, Slot.put, D.seqs, D.tyN, startD, List.replicate, Nat.reduceSub, Nat.reduceAdd, Nat.reduceLeDiff, wipeD, unw, freeAt, Slot.free, Nat.reduceEqDiff, id_eq, eq_self, c__law_stripe, c__law_tried, qc, ↓DL.qtd, DL.qtu, ↓DL.qfd, DL.qfu,  gset_free ha, gset_free hb, gset_free hc, a2, ato]
    have gi' := lg ⟨i, by omega⟩
    have gj := lg ⟨j, by omega⟩
    have go := lg ⟨o, by omega⟩
    have gp := lg ⟨p, by omega⟩
    have lb := bq_len ⟨i, by omega⟩ ⟨j, by omega⟩
    have lr := rq_len ⟨i, by omega⟩ ⟨o, by omega⟩ ⟨p, by omega⟩
    have nb := bq_eq ⟨i, by omega⟩ ⟨j, by omega⟩
    have nr := rq_eq ⟨i, by omega⟩ ⟨o, by omega⟩ ⟨p, by omega⟩
    simp only at gi' gj go gp lb lr nb nr
    refine ⟨gi', lb.1, gj, lb.2, v, xs, bDeed i j, rfl, v2, v5, rfl, hx, mem_b hi hj, nb, gi', lr.1, go, lr.2.1, gp, lr.2.2, v, xs, rDeed v i o p, rfl, v2, v5, rfl, hx, mem_r hi hov (by omega), nr, v, xs, ansD (bDeed i j) xs, rfl, v2, v5, rfl, hx, .inr (.inl ⟨i, j, rfl, rfl, hi, rfl, hj, rfl⟩), ?_⟩
    rcases st_ans (bDeed i j) xs with ⟨h1, h2⟩ | ⟨l, h1, h2⟩
    all_goals
      rw [h1, h2]
      simp -dsimp only [↓DL.qd, DL.qu, DL.qs, ↓DL.s_seq, mkD, D.key, dgetM, hide, hideS, Slot.fr?, Slot.m?, Slot.put, D.seqs, D.tyN, startD, List.replicate, Nat.reduceSub, Nat.reduceAdd, Nat.reduceLeDiff, wipeD, unw, freeAt, Slot.free, Nat.reduceEqDiff, id_eq, eq_self, c__law_stripe, c__law_tried, qc, ↓DL.qtd, DL.qtu, ↓DL.qfd, DL.qfu,  tupI]
      refine opz_of (neSame (n := 1) (by first | exact okD.tupI | exact ok_room) (by decide)) ?_
      simp -dsimp only [↓DL.qd, DL.qu, DL.qs, ↓DL.s_seq, mkD, D.key, dgetM, hide, hideS, Slot.fr?, Slot.m?, Slot.put, D.seqs, D.tyN, startD, List.replicate, Nat.reduceSub, Nat.reduceAdd, Nat.reduceLeDiff, wipeD, unw, freeAt, Slot.free, Nat.reduceEqDiff, id_eq, eq_self, c__law_stripe, c__law_tried, qc, ↓DL.qtd, DL.qtu, ↓DL.qfd, DL.qfu]
      refine ⟨v, xs, ansD (rDeed v i o p) xs, rfl, v2, v5, rfl, hx, .inr (.inr (.inr (.inr ⟨i, o, p, rfl, rfl, hi, ho, e2, rfl⟩))), ?_⟩
      rcases st_ans (rDeed v i o p) xs with ⟨h3, h4⟩ | ⟨m, h3, h4⟩
      all_goals
        rw [h3, h4]
        simp -dsimp only [↓DL.qd, DL.qu, DL.qs, ↓DL.s_seq, mkD, D.key, dgetM, hide, hideS, Slot.fr?, Slot.m?, Slot.put, D.seqs, D.tyN, startD, List.replicate, Nat.reduceSub, Nat.reduceAdd, Nat.reduceLeDiff, wipeD, unw, freeAt, Slot.free, Nat.reduceEqDiff, id_eq, eq_self, c__law_stripe, c__law_tried, qc, ↓DL.qtd, DL.qtu, ↓DL.qfd, DL.qfu,  tupI]
        refine opz_of (neSame (n := 1) (by first | exact okD.tupI | exact ok_room) (by decide)) ?_
        simp -dsimp only [↓DL.qd, DL.qu, DL.qs, ↓DL.s_seq, mkD, D.key, dgetM, hide, hideS, Slot.fr?, Slot.m?, Slot.put, D.seqs, D.tyN, startD, List.replicate, Nat.reduceSub, Nat.reduceAdd, Nat.reduceLeDiff, wipeD, unw, freeAt, Slot.free, Nat.reduceEqDiff, id_eq, eq_self, c__law_stripe, c__law_tried, qc, ↓DL.qtd, DL.qtu, ↓DL.qfd, DL.qfu]
        exact hN _ ⟨_, _, _, rfl, rfl, rfl, rfl⟩
  rintro s ⟨a, b, c, rfl, ha, hb, hc⟩
  simp -dsimp only [↓DL.qd, DL.qu, DL.qs, ↓DL.s_seq, mkD, D.key, dgetM, hide, hideS, Slot.fr?, Slot.m?, Slot.put, D.seqs, D.tyN, startD, List.replicate, Nat.reduceSub, Nat.reduceAdd, Nat.reduceLeDiff, wipeD, unw, freeAt, Slot.free, Nat.reduceEqDiff, id_eq, eq_self, c__law_stripe, c__law_tried, qc, ↓DL.qtd, DL.qtu, ↓DL.qfd, DL.qfu,  a0, a1, a2]
  have g0 := lg ⟨d0, by omega⟩
  have g1 := lg ⟨d1, by omega⟩
  have le := e_len ⟨d0, by omega⟩ ⟨d1, by omega⟩
  have ne := ne_eq ⟨d0, by omega⟩ ⟨d1, by omega⟩
  simp only at g0 g1 le ne
  refine ⟨g0, le.1, g1, le.2, v, xs, eDeed v d0 d1, rfl, v2, v5, rfl, hx, mem_e (by omega) (by omega), ne, v, xs, ansD (eDeed v d0 d1) xs, rfl, v2, v5, rfl, hx, .inr (.inr (.inl ⟨d0, d1, rfl, e0, e1, rfl⟩)), ?_⟩
  rcases st_ans (eDeed v d0 d1) xs with ⟨h1, h2⟩ | ⟨l, h1, h2⟩
  all_goals
    rw [h1, h2]
    simp -dsimp only [↓DL.qd, DL.qu, DL.qs, ↓DL.s_seq, mkD, D.key, dgetM, hide, hideS, Slot.fr?, Slot.m?, Slot.put, D.seqs, D.tyN, startD, List.replicate, Nat.reduceSub, Nat.reduceAdd, Nat.reduceLeDiff, wipeD, unw, freeAt, Slot.free, Nat.reduceEqDiff, id_eq, eq_self, c__law_stripe, c__law_tried, qc, ↓DL.qtd, DL.qtu, ↓DL.qfd, DL.qfu,  tupI]
    refine opz_of (neSame (n := 1) (by first | exact okD.tupI | exact ok_room) (by decide)) ?_
    simp -dsimp only [↓DL.qd, DL.qu, DL.qs, ↓DL.s_seq, mkD, D.key, dgetM, hide, hideS, Slot.fr?, Slot.m?, Slot.put, D.seqs, D.tyN, startD, List.replicate, Nat.reduceSub, Nat.reduceAdd, Nat.reduceLeDiff, wipeD, unw, freeAt, Slot.free, Nat.reduceEqDiff, id_eq, eq_self, c__law_stripe, c__law_tried, qc, ↓DL.qtd, DL.qtu, ↓DL.qfd, DL.qfu]
    refine ⟨by decide, v, xs, badD, rfl, v2, v5, rfl, hx, .inl ⟨rfl, by omega, rfl⟩, ?_⟩
    refine opz_of (neSame (n := 1) ok_bad (by decide)) ?_
    simp -dsimp only [↓DL.qd, DL.qu, DL.qs, ↓DL.s_seq, mkD, D.key, dgetM, hide, hideS, Slot.fr?, Slot.m?, Slot.put, D.seqs, D.tyN, startD, List.replicate, Nat.reduceSub, Nat.reduceAdd, Nat.reduceLeDiff, wipeD, unw, freeAt, Slot.free, Nat.reduceEqDiff, id_eq, eq_self, c__law_stripe, c__law_tried, qc, ↓DL.qtd, DL.qtu, ↓DL.qfd, DL.qfu]
    refine ⟨v, xs, badD, rfl, v2, v5, rfl, hx, .inl ⟨rfl, by omega, rfl⟩, ?_⟩
    refine opz_of (neSame (n := 1) ok_bad (by decide)) ?_
    simp -dsimp only [↓DL.qd, DL.qu, DL.qs, ↓DL.s_seq, mkD, D.key, dgetM, hide, hideS, Slot.fr?, Slot.m?, Slot.put, D.seqs, D.tyN, startD, List.replicate, Nat.reduceSub, Nat.reduceAdd, Nat.reduceLeDiff, wipeD, unw, freeAt, Slot.free, Nat.reduceEqDiff, id_eq, eq_self, c__law_stripe, c__law_tried, qc, ↓DL.qtd, DL.qtu, ↓DL.qfd, DL.qfu]
    refine ⟨v, xs, badD, rfl, v2, v5, rfl, hx, .inl ⟨rfl, by omega, rfl⟩, ?_⟩
    refine opz_of (neSame (n := 1) ok_bad (by decide)) ?_
    simp -dsimp only [↓DL.qd, DL.qu, DL.qs, ↓DL.s_seq, mkD, D.key, dgetM, hide, hideS, Slot.fr?, Slot.m?, Slot.put, D.seqs, D.tyN, startD, List.replicate, Nat.reduceSub, Nat.reduceAdd, Nat.reduceLeDiff, wipeD, unw, freeAt, Slot.free, Nat.reduceEqDiff, id_eq, eq_self, c__law_stripe, c__law_tried, qc, ↓DL.qtd, DL.qtu, ↓DL.qfd, DL.qfu]
    refine ⟨v, xs, badD, rfl, v2, v5, rfl, hx, .inr (.inr (.inr (.inl ⟨rfl, by omega, rfl⟩))), ?_⟩
    refine opz_of (eqSame (n := 1) ok_bad (by decide)) ?_
    simp -dsimp only [↓DL.qd, DL.qu, DL.qs, ↓DL.s_seq, mkD, D.key, dgetM, hide, hideS, Slot.fr?, Slot.m?, Slot.put, D.seqs, D.tyN, startD, List.replicate, Nat.reduceSub, Nat.reduceAdd, Nat.reduceLeDiff, wipeD, unw, freeAt, Slot.free, Nat.reduceEqDiff, id_eq, eq_self, c__law_stripe, c__law_tried, qc, ↓DL.qtd, DL.qtu, ↓DL.qfd, DL.qfu]
    exact q
end
end K45
namespace K45
open PySem PySem.Spec L2 DL Msk Tel
section
variable {P : Program} {w : World} {K : PySem.W.Frag} {mg : Str → Option Value} {base : Heap} {TB : List (Addr × Str)} {C_WreckError C_InvalidMachine C_InvalidDisk C_InvalidSketch C_NoSuchDeed C_CannotDo C_InvalidForm C_InvalidFile C_NoRoom C_Machine C_StripeForm : Addr}
theorem ok_nm {v : Nat} (h : 2 ≤ v ∧ v ≤ 5) : ∀ d ∈ (SM v).ds, PyData.canLay0 (.str d.nm) = true := by rcases v25 h with rfl | rfl | rfl | rfl <;> decide +kernel
theorem ok_cells {v : Nat} : okD 2 (D.tup ((SM v).cells.map cellD)) := .tup fun d hd => by
  have hd : d ∈ [D.tup [D.str "d0", D.int v], D.tup [D.str "d1", D.int v], D.tup [D.str "p", D.int v], D.tup [D.str "w", D.int 3]] := hd
  simp only [List.mem_cons, List.not_mem_nil, or_false] at hd
  rcases hd with rfl | rfl | rfl | rfl
  all_goals
    refine .tup fun e he => ?_
    simp only [List.mem_cons, List.not_mem_nil, or_false] at he
    rcases he with rfl | rfl
    · exact okD.str (by decide +kernel)
    · exact okD.int _
theorem ok_names {v : Nat} (h : 2 ≤ v ∧ v ≤ 5) : okD 1 (D.lst ((SM v).ds.map nmD)) := .lst fun d hd => by
  obtain ⟨x, hx, rfl⟩ := List.mem_map.mp hd
  exact okD.str (ok_nm h x hx)
theorem SM_len {v : Nat} (h : 2 ≤ v ∧ v ≤ 5) : (SM v).ds.length ≤ 100 := by rcases v25 h with rfl | rfl | rfl | rfl <;> decide
def c_law : CT
  | [.fz (.scr _)], R, _ => R (.fz (.bl true)) []
  | _, _, _ => False
theorem sc_law : FnScope N_law ["script"] (defScope s_law) := ⟨rfl, rfl, rfl, by decide +kernel, rfl, by decide +kernel, by decide +kernel⟩
theorem ok_law (T : Txt K mg P w C_WreckError C_InvalidMachine C_InvalidDisk C_InvalidSketch C_NoSuchDeed C_CannotDo C_InvalidForm C_InvalidFile C_NoRoom C_Machine C_StripeForm) (G_StripeForm_init : InAt P w K mg base TB 2 "StripeForm" C_StripeForm ["self", "alphabet"] (c_StripeForm_init C_InvalidForm C_StripeForm)) (G__law_cell : FnAt P w K mg base TB 1 "_law_cell" ["script", "k"] false c__law_cell) (G__law_is_right : FnAt P w K mg base TB 4 "_law_is_right" ["form", "values", "disk", "value"] false (c__law_is_right C_StripeForm)) (G__law_mix : FnAt P w K mg base TB 1 "_law_mix" ["cell", "k"] false c__law_mix) (G__law_names : FnAt P w K mg base TB 1 "_law_names" ["values"] false c__law_names) (G__law_stripe : FnAt P w K mg base TB 1 "_law_stripe" ["values", "disk", "name"] false c__law_stripe) (G_after : FnAt P w K mg base TB 3 "after" ["machine", "disk", "deed"] false (c_after C_Machine C_InvalidDisk C_NoSuchDeed C_CannotDo)) (G_can_do : FnAt P w K mg base TB 2 "can_do" ["machine", "disk", "deed"] false (c_can_do C_Machine C_InvalidDisk C_NoSuchDeed)) (G_stripe_machine : FnAt P w K mg base TB 5 "stripe_machine" ["form"] false (c_stripe_machine C_Machine C_StripeForm)) (F : TopFn K mg "law" s_law ["script"]) : FnAt P w K mg base TB 6 "law" ["script"] false c_law := by
  have nd := sc_law.nd
  refine fnAt F sc_law (fun ms R X h => by unfold c_law at h; split at h <;> first | rfl | exact h.elim) (fun h => by cases h) fun f cdv A outer s H E x0 Xd hr => ?_
  have bd0 := fun (W : WX) (Dw : Value → Pay → DSt → Prop) (pn : List (Addr × Obj)) (xe : Value → Shared → Prop) (tkb : Takes (Cx.tr (cxOf (L2.CX P w) P w K mg base N_law "law" (defScope s_law) f cdv A outer s H E) pn xe) W) (pob : PassesOwn (model P w) (Cx.A (cxOf (L2.CX P w) P w K mg base N_law "law" (defScope s_law) f cdv A outer s H E)) (Cx.env (cxOf (L2.CX P w) P w K mg base N_law "law" (defScope s_law) f cdv A outer s H E)) xe) => ((dss_one (ds_set (i := 8) nd rfl (by first | exact Or.inl rfl | exact Or.inr rfl) (de_fz (de_make G_StripeForm_init (hr.mono (by decide)) rfl rfl tkb (da_cons (dv 1) da_nil))))) : DSs (ZX.mk K W Dw TB) (Cx.tr (cxOf (L2.CX P w) P w K mg base N_law "law" (defScope s_law) f cdv A outer s H E) pn xe) (tryB (stB (defBody s_law) 2)) _ _)
  dsimp only at bd0
  have su0 := fun (a : Addr) (oe : Obj) (cls : Value) (d : Option Addr) (pl : Pay) (pn : List (Addr × Obj)) (hpd : payD d pl) (hz : Zc cls d oe) (hf : ∃ vs, oe.data = .fields vs) => ((dss_one (ds_ret (de_and (de_isE rfl hpd hz hf (by rfl) T.n_isinstance (da_cons (dv 2) (da_cons (de_gref T.x_InvalidForm.mgc) da_nil))) (de_one (de_not (de_chain op_le od_le op_le od_le de_int (dv 1) de_int)))))) : DSs (noxZ (ZX.mk K (fun _ _ _ _ => False) (fun _ _ _ => False) TB)) (Cx.suite (cxOf (L2.CX P w) P w K mg base N_law "law" (defScope s_law) f cdv A outer s H E) a ((a, oe) :: pn)) (hdB (stB (defBody s_law) 2)) _ _)
  dsimp only at su0
  refine ⟨_, _, (dss_cons (ds_set (i := 1) nd rfl (by first | exact Or.inl rfl | exact Or.inr rfl) (de_op (op_addA rfl) od_add de_int (de_op op_modN od_mod (de_callN G__law_cell (hr.mono (by decide)) rfl rfl takesD (da_cons (dv 0) (da_cons de_int da_nil))) de_int)))
      (dss_cons (ds_if (dt_cmp (op_eqA rfl (hu64 hr)) od_eq (de_op op_modN od_mod (de_op op_fdivA od_fdiv (de_callN G__law_cell (hr.mono (by decide)) rfl rfl takesD (da_cons (dv 0) (da_cons de_int da_nil))) de_int) de_int) de_int (nomark _))
      (dss_one (ds_set (i := 1) nd rfl (by first | exact Or.inl rfl | exact Or.inr rfl) (de_op op_modN od_mod (de_op op_fdivA od_fdiv (de_callN G__law_cell (hr.mono (by decide)) rfl rfl takesD (da_cons (dv 0) (da_cons de_int da_nil))) de_int) de_int)))
      dss_nil)
      (dss_cons (ds_tryA (i := 2) rfl rfl rfl nd rfl rfl ⟨rfl, by decide, .inl T.x_WreckError.mgc⟩ takesD bd0 su0)
      (dss_cons (ds_if (DW.pt (dw_or (dt_not (dt_chain op_le od_le op_le od_le de_int (dv 1) de_int)) (dw_or1 (dt_cmp (op_neA rfl (hu64 hr)) od_ne (de_attr (f := "alphabet") (fun C => C = C_StripeForm) rfl T.at_alphabet (dv 8)) (dv 1) (nomark _)))))
      (dss_one (ds_ret de_bl))
      dss_nil)
      (dss_cons (ds_set (i := 3) nd rfl (by first | exact Or.inl rfl | exact Or.inr rfl) (de_callN G_stripe_machine hr rfl rfl takesD (da_cons (dv 8) da_nil)))
      (dss_cons (ds_set (i := 4) nd rfl (by first | exact Or.inl rfl | exact Or.inr rfl) (de_callN G__law_names (hr.mono (by decide)) rfl rfl takesD (da_cons (dv 1) da_nil)))
      (dss_cons (ds_set (i := 5) nd rfl (by first | exact Or.inl rfl | exact Or.inr rfl) (de_tup (da_cons (de_tup (da_cons de_str (da_cons (dv 1) da_nil))) (da_cons (de_tup (da_cons de_str (da_cons (dv 1) da_nil))) (da_cons (de_tup (da_cons de_str (da_cons (dv 1) da_nil))) (da_cons (de_tup (da_cons de_str (da_cons de_int da_nil))) da_nil))))))
      (dss_cons (ds_if (DW.pt (dw_or (dt_cmp (op_neA rfl (hu64 hr)) od_ne (de_attr (f := "cells") (fun C => C = C_Machine) rfl T.at_cells (dv 3)) (dv 5) (nomark _)) (dw_or (dt_cmp (op_neA rfl (hu64 hr)) od_ne (de_attr (f := "first") (fun C => C = C_Machine) rfl T.at_first (dv 3)) (de_tup (da_cons de_int (da_cons de_int (da_cons de_int (da_cons de_int da_nil))))) (nomark _)) (dw_or1 (dt_cmp (op_neA rfl (hu64 hr)) od_ne (de_lc (own := [("deed", 14)]) rfl nd (di_any rfl (de_attr (f := "deeds") (fun C => C = C_Machine) rfl T.at_deeds (dv 3))) (blkOk_by (N := N_law) (sc := defScope s_law) (by decide +kernel)) (GOnly.name (by decide)) GMono.name (fun _ _ _ _ _ => (dg_name (i := 14) nd rfl (by first | exact Or.inl rfl | exact Or.inr rfl))) (fun _ _ _ _ _ => dts_nil) (fun _ _ _ _ _ => (de_ix rfl (hu1 hr) (dv 14) de_int))) (dv 4) (nomark _))))))
      (dss_one (ds_ret de_bl))
      dss_nil)
      (dss_cons (ds_for passD rfl (di_rng1 (by rfl) T.n_range (da_cons de_int da_nil)) (dg_name (i := 6) nd rfl (by first | exact Or.inl rfl | exact Or.inr rfl))
      (dss_cons (ds_set (i := 9) nd rfl (by first | exact Or.inl rfl | exact Or.inr rfl) (de_callTy (call_tupleA rfl) cd_tuple (by rfl) T.n_tuple bo_tuple (da_cons (de_lc (own := [("j", 15)]) rfl nd (di_rng1 (by rfl) T.n_range (da_cons de_int da_nil)) (blkOk_by (N := N_law) (sc := defScope s_law) (by decide +kernel)) (GOnly.name (by decide)) GMono.name (fun _ _ _ _ _ => (dg_name (i := 15) nd rfl (by first | exact Or.inl rfl | exact Or.inr rfl))) (fun _ _ _ _ _ => dts_nil) (fun _ _ _ _ _ => (de_op op_modN od_mod (de_callN G__law_mix (hr.mono (by decide)) rfl rfl takes_blk (da_cons (de_op (op_addA rfl) od_add (de_callN G__law_cell (hr.mono (by decide)) rfl rfl takes_blk (da_cons (dv 0) (da_cons de_int da_nil))) (dv 6)) (da_cons (dv 15) da_nil))) (de_ix rfl (hu1 hr) (de_tup (da_cons (dv 1) (da_cons (dv 1) (da_cons (dv 1) (da_cons de_int da_nil))))) (dv 15))))) da_nil)))
      (dss_cons (ds_for passD rfl (di_rng1 (by rfl) T.n_range (da_cons (de_callB (call_lenA rfl) cd_len (by rfl) T.n_len bo_len (da_cons (dv 4) da_nil)) da_nil)) (dg_name (i := 10) nd rfl (by first | exact Or.inl rfl | exact Or.inr rfl))
      (dss_cons (ds_set (i := 13) nd rfl (by first | exact Or.inl rfl | exact Or.inr rfl) (de_callN G__law_stripe (hr.mono (by decide)) rfl rfl takesD (da_cons (dv 1) (da_cons (dv 9) (da_cons (de_ix rfl (hu1 hr) (dv 4) (dv 10)) da_nil)))))
      (dss_one (ds_if (DW.pt (dw_or (dt_cmp (op_neA rfl (hu64 hr)) od_ne (de_callN G_can_do (hr.mono (by decide)) rfl rfl takesD (da_cons (dv 3) (da_cons (dv 9) (da_cons (dv 10) da_nil)))) (de_cmp op_notN od_isnot (dv 13) de_non (nomark _)) (nomark _)) (dw_or1 (DW.pt (dw_and (dt_cmp op_notN od_isnot (dv 13) de_non (nomark _)) (dw_and1 (dt_cmp (op_neA rfl (hu64 hr)) od_ne (de_callN G_after (hr.mono (by decide)) rfl rfl takesD (da_cons (dv 3) (da_cons (dv 9) (da_cons (dv 10) da_nil)))) (dv 13) (nomark _))))))))
      (dss_one (ds_ret de_bl))
      dss_nil))))
      (dss_one (ds_if (dt_not (dt_truth (de_callN G__law_is_right (hr.mono (by decide)) rfl rfl takesD (da_cons (dv 8) (da_cons (dv 1) (da_cons (dv 9) (da_cons (de_op op_modN od_mod (dv 6) (dv 1)) da_nil)))))))
      (dss_one (ds_ret de_bl))
      dss_nil)))))
      (dss_cons (ds_set (i := 7) nd rfl (by first | exact Or.inl rfl | exact Or.inr rfl) (de_tup (da_cons de_int (da_cons de_int (da_cons de_int (da_cons de_int da_nil))))))
      (dss_cons (ds_for passD rfl (di_rng1 (by rfl) T.n_range (da_cons (de_op op_modN od_mod (de_callN G__law_cell (hr.mono (by decide)) rfl rfl takesD (da_cons (dv 0) (da_cons de_int da_nil))) de_int) da_nil)) (dg_name (i := 6) nd rfl (by first | exact Or.inl rfl | exact Or.inr rfl))
      (dss_cons (ds_set (i := 11) nd rfl (by first | exact Or.inl rfl | exact Or.inr rfl) (de_callN G__law_mix (hr.mono (by decide)) rfl rfl takesD (da_cons (de_callN G__law_cell (hr.mono (by decide)) rfl rfl takesD (da_cons (dv 0) (da_cons (de_op (op_addA rfl) od_add de_int (dv 6)) da_nil))) (da_cons (dv 6) da_nil))))
      (dss_cons (ds_set (i := 12) nd rfl (by first | exact Or.inl rfl | exact Or.inr rfl) (de_lst da_nil))
      (dss_cons (ds_for passD rfl (di_rng1 (by rfl) T.n_range (da_cons (de_callB (call_lenA rfl) cd_len (by rfl) T.n_len bo_len (da_cons (dv 4) da_nil)) da_nil)) (dg_name (i := 10) nd rfl (by first | exact Or.inl rfl | exact Or.inr rfl))
      (dss_cons (ds_set (i := 13) nd rfl (by first | exact Or.inl rfl | exact Or.inr rfl) (de_callN G__law_stripe (hr.mono (by decide)) rfl rfl takesD (da_cons (dv 1) (da_cons (dv 7) (da_cons (de_ix rfl (hu1 hr) (dv 4) (dv 10)) da_nil)))))
      (dss_cons (ds_if (dt_cmp (op_neA rfl (hu64 hr)) od_ne (de_callN G_can_do (hr.mono (by decide)) rfl rfl takesD (da_cons (dv 3) (da_cons (dv 7) (da_cons (dv 10) da_nil)))) (de_cmp op_notN od_isnot (dv 13) de_non (nomark _)) (nomark _))
      (dss_one (ds_ret de_bl))
      dss_nil)
      (dss_one (ds_if (dt_cmp op_notN od_isnot (dv 13) de_non (nomark _))
      (dss_cons (ds_expr (de_append (i := 12) rfl (da_cons (dv 13) da_nil)))
      (dss_one (ds_if (dt_cmp (op_neA rfl (hu64 hr)) od_ne (de_callN G_after (hr.mono (by decide)) rfl rfl takesD (da_cons (dv 3) (da_cons (dv 7) (da_cons (dv 10) da_nil)))) (dv 13) (nomark _))
      (dss_one (ds_ret de_bl))
      dss_nil)))
      dss_nil)))))
      (dss_cons (ds_if (dt_not (dt_truth (de_callN G__law_is_right (hr.mono (by decide)) rfl rfl takesD (da_cons (dv 8) (da_cons (dv 1) (da_cons (dv 7) (da_cons (de_op op_modN od_mod (dv 11) (dv 1)) da_nil)))))))
      (dss_one (ds_ret de_bl))
      dss_nil)
      (dss_cons (ds_if (DW.pt (dw_and (dt_cmp (op_eqA rfl (hu64 hr)) od_eq (de_ix rfl (hu1 hr) (dv 7) de_int) de_int (nomark _)) (dw_and1 (dt_cmp (op_neA rfl (hu64 hr)) od_ne (de_ix rfl (hu1 hr) (dv 7) de_int) (de_op op_modN od_mod (de_op (op_addA rfl) od_add (de_ix rfl (hu1 hr) (dv 7) de_int) (de_ix rfl (hu1 hr) (dv 7) de_int)) (dv 1)) (nomark _)))))
      (dss_one (ds_ret de_bl))
      dss_nil)
      (dss_one (ds_set (i := 7) nd rfl (by first | exact Or.inl rfl | exact Or.inr rfl) (de_ix rfl (hu1 hr) (dv 12) (de_op op_modN od_mod (de_op op_fdivA od_fdiv (dv 11) de_int) (de_callB (call_lenA rfl) cd_len (by rfl) T.n_len bo_len (da_cons (dv 12) da_nil))))))))))))
      (dss_one (ds_ret de_bl))))))))))))), ?_⟩
  intro ms Rd h
  unfold c_law at h
  split at h <;> first | exact (show False from h).elim | skip
  rename_i ns
  simp -dsimp only [↓DL.qd, DL.qu, DL.qs, mkD, D.key, dgetM, hide, hideS, Slot.fr?, Slot.m?, Slot.put, D.seqs, D.tyN, startD, List.replicate, Nat.reduceSub, Nat.reduceAdd, Nat.reduceLeDiff, wipeD, unw, freeAt, Slot.free, Nat.reduceEqDiff, id_eq, eq_self, c_StripeForm_init, c__law_cell, c__law_is_right, c__law_mix, c__law_names, c__law_stripe, c_after, c_can_do, c_stripe_machine, T.ex_WreckError_WreckError, T.ex_InvalidMachine_WreckError, T.ex_InvalidDisk_WreckError, T.ex_InvalidSketch_WreckError, T.ex_NoSuchDeed_WreckError, T.ex_CannotDo_WreckError, T.ex_InvalidForm_WreckError, T.ex_InvalidFile_WreckError, T.ex_NoRoom_WreckError, DL.o_isE T.xi_WreckError T.is_WreckError_InvalidFile, DL.o_isE T.xi_InvalidMachine T.is_InvalidMachine_InvalidFile, DL.o_isE T.xi_InvalidDisk T.is_InvalidDisk_InvalidFile, DL.o_isE T.xi_InvalidSketch T.is_InvalidSketch_InvalidFile, DL.o_isE T.xi_NoSuchDeed T.is_NoSuchDeed_InvalidFile, DL.o_isX T.xi_CannotDo T.is_CannotDo_InvalidFile, DL.o_isE T.xi_InvalidForm T.is_InvalidForm_InvalidFile, DL.o_isE T.xi_InvalidFile T.is_InvalidFile_InvalidFile, DL.o_isE T.xi_NoRoom T.is_NoRoom_InvalidFile, DL.o_isE T.xi_WreckError T.is_WreckError_NoRoom, DL.o_isE T.xi_InvalidMachine T.is_InvalidMachine_NoRoom, DL.o_isE T.xi_InvalidDisk T.is_InvalidDisk_NoRoom, DL.o_isE T.xi_InvalidSketch T.is_InvalidSketch_NoRoom, DL.o_isE T.xi_NoSuchDeed T.is_NoSuchDeed_NoRoom, DL.o_isX T.xi_CannotDo T.is_CannotDo_NoRoom, DL.o_isE T.xi_InvalidForm T.is_InvalidForm_NoRoom, DL.o_isE T.xi_InvalidFile T.is_InvalidFile_NoRoom, DL.o_isE T.xi_NoRoom T.is_NoRoom_NoRoom, DL.o_isE T.xi_WreckError T.is_WreckError_InvalidForm, DL.o_isE T.xi_InvalidMachine T.is_InvalidMachine_InvalidForm, DL.o_isE T.xi_InvalidDisk T.is_InvalidDisk_InvalidForm, DL.o_isE T.xi_InvalidSketch T.is_InvalidSketch_InvalidForm, DL.o_isE T.xi_NoSuchDeed T.is_NoSuchDeed_InvalidForm, DL.o_isX T.xi_CannotDo T.is_CannotDo_InvalidForm, DL.o_isE T.xi_InvalidForm T.is_InvalidForm_InvalidForm, DL.o_isE T.xi_InvalidFile T.is_InvalidFile_InvalidForm, DL.o_isE T.xi_NoRoom T.is_NoRoom_InvalidForm, qc, ↓DL.qtd, DL.qtu, ↓DL.qfd, DL.qfu]
  rw [DL.s_seq]
  simp -dsimp only [↓DL.qd, DL.qu, DL.qs, mkD, D.key, dgetM, hide, hideS, Slot.fr?, Slot.m?, Slot.put, D.seqs, D.tyN, startD, List.replicate, Nat.reduceSub, Nat.reduceAdd, Nat.reduceLeDiff, wipeD, unw, freeAt, Slot.free, Nat.reduceEqDiff, id_eq, eq_self, c_StripeForm_init, c__law_cell, c__law_is_right, c__law_mix, c__law_names, c__law_stripe, c_after, c_can_do, c_stripe_machine, T.ex_WreckError_WreckError, T.ex_InvalidMachine_WreckError, T.ex_InvalidDisk_WreckError, T.ex_InvalidSketch_WreckError, T.ex_NoSuchDeed_WreckError, T.ex_CannotDo_WreckError, T.ex_InvalidForm_WreckError, T.ex_InvalidFile_WreckError, T.ex_NoRoom_WreckError, DL.o_isE T.xi_WreckError T.is_WreckError_InvalidFile, DL.o_isE T.xi_InvalidMachine T.is_InvalidMachine_InvalidFile, DL.o_isE T.xi_InvalidDisk T.is_InvalidDisk_InvalidFile, DL.o_isE T.xi_InvalidSketch T.is_InvalidSketch_InvalidFile, DL.o_isE T.xi_NoSuchDeed T.is_NoSuchDeed_InvalidFile, DL.o_isX T.xi_CannotDo T.is_CannotDo_InvalidFile, DL.o_isE T.xi_InvalidForm T.is_InvalidForm_InvalidFile, DL.o_isE T.xi_InvalidFile T.is_InvalidFile_InvalidFile, DL.o_isE T.xi_NoRoom T.is_NoRoom_InvalidFile, DL.o_isE T.xi_WreckError T.is_WreckError_NoRoom, DL.o_isE T.xi_InvalidMachine T.is_InvalidMachine_NoRoom, DL.o_isE T.xi_InvalidDisk T.is_InvalidDisk_NoRoom, DL.o_isE T.xi_InvalidSketch T.is_InvalidSketch_NoRoom, DL.o_isE T.xi_NoSuchDeed T.is_NoSuchDeed_NoRoom, DL.o_isX T.xi_CannotDo T.is_CannotDo_NoRoom, DL.o_isE T.xi_InvalidForm T.is_InvalidForm_NoRoom, DL.o_isE T.xi_InvalidFile T.is_InvalidFile_NoRoom, DL.o_isE T.xi_NoRoom T.is_NoRoom_NoRoom, DL.o_isE T.xi_WreckError T.is_WreckError_InvalidForm, DL.o_isE T.xi_InvalidMachine T.is_InvalidMachine_InvalidForm, DL.o_isE T.xi_InvalidDisk T.is_InvalidDisk_InvalidForm, DL.o_isE T.xi_InvalidSketch T.is_InvalidSketch_InvalidForm, DL.o_isE T.xi_NoSuchDeed T.is_NoSuchDeed_InvalidForm, DL.o_isX T.xi_CannotDo T.is_CannotDo_InvalidForm, DL.o_isE T.xi_InvalidForm T.is_InvalidForm_InvalidForm, DL.o_isE T.xi_InvalidFile T.is_InvalidFile_InvalidForm, DL.o_isE T.xi_NoRoom T.is_NoRoom_InvalidForm, qc, ↓DL.qtd, DL.qtu, ↓DL.qfd, DL.qfu]
  refine ⟨by decide, fun u0 => ⟨by decide, ?_⟩⟩
  refine join (fun s => ∃ va : Int, s = [.v (.fz (.scr ns)), .v (.fz (.int va)), .un, .un, .un, .un, .un, .un, .un, .un, .un, .un, .un, .un, .un, .un]) ?_ ?_
  · intro N hN
    simp -dsimp only [↓DL.qd, DL.qu, DL.qs, ↓DL.s_seq, mkD, D.key, dgetM, hide, hideS, Slot.fr?, Slot.m?, Slot.put, D.seqs, D.tyN, startD, List.replicate, Nat.reduceSub, Nat.reduceAdd, Nat.reduceLeDiff, wipeD, unw, freeAt, Slot.free, Nat.reduceEqDiff, id_eq, eq_self, c_StripeForm_init, c__law_cell, c__law_is_right, c__law_mix, c__law_names, c__law_stripe, c_after, c_can_do, c_stripe_machine, T.ex_WreckError_WreckError, T.ex_InvalidMachine_WreckError, T.ex_InvalidDisk_WreckError, T.ex_InvalidSketch_WreckError, T.ex_NoSuchDeed_WreckError, T.ex_CannotDo_WreckError, T.ex_InvalidForm_WreckError, T.ex_InvalidFile_WreckError, T.ex_NoRoom_WreckError, DL.o_isE T.xi_WreckError T.is_WreckError_InvalidFile, DL.o_isE T.xi_InvalidMachine T.is_InvalidMachine_InvalidFile, DL.o_isE T.xi_InvalidDisk T.is_InvalidDisk_InvalidFile, DL.o_isE T.xi_InvalidSketch T.is_InvalidSketch_InvalidFile, DL.o_isE T.xi_NoSuchDeed T.is_NoSuchDeed_InvalidFile, DL.o_isX T.xi_CannotDo T.is_CannotDo_InvalidFile, DL.o_isE T.xi_InvalidForm T.is_InvalidForm_InvalidFile, DL.o_isE T.xi_InvalidFile T.is_InvalidFile_InvalidFile, DL.o_isE T.xi_NoRoom T.is_NoRoom_InvalidFile, DL.o_isE T.xi_WreckError T.is_WreckError_NoRoom, DL.o_isE T.xi_InvalidMachine T.is_InvalidMachine_NoRoom, DL.o_isE T.xi_InvalidDisk T.is_InvalidDisk_NoRoom, DL.o_isE T.xi_InvalidSketch T.is_InvalidSketch_NoRoom, DL.o_isE T.xi_NoSuchDeed T.is_NoSuchDeed_NoRoom, DL.o_isX T.xi_CannotDo T.is_CannotDo_NoRoom, DL.o_isE T.xi_InvalidForm T.is_InvalidForm_NoRoom, DL.o_isE T.xi_InvalidFile T.is_InvalidFile_NoRoom, DL.o_isE T.xi_NoRoom T.is_NoRoom_NoRoom, DL.o_isE T.xi_WreckError T.is_WreckError_InvalidForm, DL.o_isE T.xi_InvalidMachine T.is_InvalidMachine_InvalidForm, DL.o_isE T.xi_InvalidDisk T.is_InvalidDisk_InvalidForm, DL.o_isE T.xi_InvalidSketch T.is_InvalidSketch_InvalidForm, DL.o_isE T.xi_NoSuchDeed T.is_NoSuchDeed_InvalidForm, DL.o_isX T.xi_CannotDo T.is_CannotDo_InvalidForm, DL.o_isE T.xi_InvalidForm T.is_InvalidForm_InvalidForm, DL.o_isE T.xi_InvalidFile T.is_InvalidFile_InvalidForm, DL.o_isE T.xi_NoRoom T.is_NoRoom_InvalidForm, qc, ↓DL.qtd, DL.qtu, ↓DL.qfd, DL.qfu]
    refine ⟨by decide, fun u1 => ⟨cfd_r (by decide) (by decide), by decide, br_dec (fun _ => ?_) (fun _ => ?_)⟩⟩
    · simp -dsimp only [↓DL.qd, DL.qu, DL.qs, ↓DL.s_seq, mkD, D.key, dgetM, hide, hideS, Slot.fr?, Slot.m?, Slot.put, D.seqs, D.tyN, startD, List.replicate, Nat.reduceSub, Nat.reduceAdd, Nat.reduceLeDiff, wipeD, unw, freeAt, Slot.free, Nat.reduceEqDiff, id_eq, eq_self, c_StripeForm_init, c__law_cell, c__law_is_right, c__law_mix, c__law_names, c__law_stripe, c_after, c_can_do, c_stripe_machine, T.ex_WreckError_WreckError, T.ex_InvalidMachine_WreckError, T.ex_InvalidDisk_WreckError, T.ex_InvalidSketch_WreckError, T.ex_NoSuchDeed_WreckError, T.ex_CannotDo_WreckError, T.ex_InvalidForm_WreckError, T.ex_InvalidFile_WreckError, T.ex_NoRoom_WreckError, DL.o_isE T.xi_WreckError T.is_WreckError_InvalidFile, DL.o_isE T.xi_InvalidMachine T.is_InvalidMachine_InvalidFile, DL.o_isE T.xi_InvalidDisk T.is_InvalidDisk_InvalidFile, DL.o_isE T.xi_InvalidSketch T.is_InvalidSketch_InvalidFile, DL.o_isE T.xi_NoSuchDeed T.is_NoSuchDeed_InvalidFile, DL.o_isX T.xi_CannotDo T.is_CannotDo_InvalidFile, DL.o_isE T.xi_InvalidForm T.is_InvalidForm_InvalidFile, DL.o_isE T.xi_InvalidFile T.is_InvalidFile_InvalidFile, DL.o_isE T.xi_NoRoom T.is_NoRoom_InvalidFile, DL.o_isE T.xi_WreckError T.is_WreckError_NoRoom, DL.o_isE T.xi_InvalidMachine T.is_InvalidMachine_NoRoom, DL.o_isE T.xi_InvalidDisk T.is_InvalidDisk_NoRoom, DL.o_isE T.xi_InvalidSketch T.is_InvalidSketch_NoRoom, DL.o_isE T.xi_NoSuchDeed T.is_NoSuchDeed_NoRoom, DL.o_isX T.xi_CannotDo T.is_CannotDo_NoRoom, DL.o_isE T.xi_InvalidForm T.is_InvalidForm_NoRoom, DL.o_isE T.xi_InvalidFile T.is_InvalidFile_NoRoom, DL.o_isE T.xi_NoRoom T.is_NoRoom_NoRoom, DL.o_isE T.xi_WreckError T.is_WreckError_InvalidForm, DL.o_isE T.xi_InvalidMachine T.is_InvalidMachine_InvalidForm, DL.o_isE T.xi_InvalidDisk T.is_InvalidDisk_InvalidForm, DL.o_isE T.xi_InvalidSketch T.is_InvalidSketch_InvalidForm, DL.o_isE T.xi_NoSuchDeed T.is_NoSuchDeed_InvalidForm, DL.o_isX T.xi_CannotDo T.is_CannotDo_InvalidForm, DL.o_isE T.xi_InvalidForm T.is_InvalidForm_InvalidForm, DL.o_isE T.xi_InvalidFile T.is_InvalidFile_InvalidForm, DL.o_isE T.xi_NoRoom T.is_NoRoom_InvalidForm, qc, ↓DL.qtd, DL.qtu, ↓DL.qfd, DL.qfu]
      refine ⟨by decide, fun u2 => ⟨cfd_r (by decide) (by decide), by decide, ?_⟩⟩
      exact hN _ ⟨_, rfl⟩
    · simp -dsimp only [↓DL.qd, DL.qu, DL.qs, ↓DL.s_seq, mkD, D.key, dgetM, hide, hideS, Slot.fr?, Slot.m?, Slot.put, D.seqs, D.tyN, startD, List.replicate, Nat.reduceSub, Nat.reduceAdd, Nat.reduceLeDiff, wipeD, unw, freeAt, Slot.free, Nat.reduceEqDiff, id_eq, eq_self, c_StripeForm_init, c__law_cell, c__law_is_right, c__law_mix, c__law_names, c__law_stripe, c_after, c_can_do, c_stripe_machine, T.ex_WreckError_WreckError, T.ex_InvalidMachine_WreckError, T.ex_InvalidDisk_WreckError, T.ex_InvalidSketch_WreckError, T.ex_NoSuchDeed_WreckError, T.ex_CannotDo_WreckError, T.ex_InvalidForm_WreckError, T.ex_InvalidFile_WreckError, T.ex_NoRoom_WreckError, DL.o_isE T.xi_WreckError T.is_WreckError_InvalidFile, DL.o_isE T.xi_InvalidMachine T.is_InvalidMachine_InvalidFile, DL.o_isE T.xi_InvalidDisk T.is_InvalidDisk_InvalidFile, DL.o_isE T.xi_InvalidSketch T.is_InvalidSketch_InvalidFile, DL.o_isE T.xi_NoSuchDeed T.is_NoSuchDeed_InvalidFile, DL.o_isX T.xi_CannotDo T.is_CannotDo_InvalidFile, DL.o_isE T.xi_InvalidForm T.is_InvalidForm_InvalidFile, DL.o_isE T.xi_InvalidFile T.is_InvalidFile_InvalidFile, DL.o_isE T.xi_NoRoom T.is_NoRoom_InvalidFile, DL.o_isE T.xi_WreckError T.is_WreckError_NoRoom, DL.o_isE T.xi_InvalidMachine T.is_InvalidMachine_NoRoom, DL.o_isE T.xi_InvalidDisk T.is_InvalidDisk_NoRoom, DL.o_isE T.xi_InvalidSketch T.is_InvalidSketch_NoRoom, DL.o_isE T.xi_NoSuchDeed T.is_NoSuchDeed_NoRoom, DL.o_isX T.xi_CannotDo T.is_CannotDo_NoRoom, DL.o_isE T.xi_InvalidForm T.is_InvalidForm_NoRoom, DL.o_isE T.xi_InvalidFile T.is_InvalidFile_NoRoom, DL.o_isE T.xi_NoRoom T.is_NoRoom_NoRoom, DL.o_isE T.xi_WreckError T.is_WreckError_InvalidForm, DL.o_isE T.xi_InvalidMachine T.is_InvalidMachine_InvalidForm, DL.o_isE T.xi_InvalidDisk T.is_InvalidDisk_InvalidForm, DL.o_isE T.xi_InvalidSketch T.is_InvalidSketch_InvalidForm, DL.o_isE T.xi_NoSuchDeed T.is_NoSuchDeed_InvalidForm, DL.o_isX T.xi_CannotDo T.is_CannotDo_InvalidForm, DL.o_isE T.xi_InvalidForm T.is_InvalidForm_InvalidForm, DL.o_isE T.xi_InvalidFile T.is_InvalidFile_InvalidForm, DL.o_isE T.xi_NoRoom T.is_NoRoom_InvalidForm, qc, ↓DL.qtd, DL.qtu, ↓DL.qfd, DL.qfu]
      exact hN _ ⟨_, rfl⟩
  rintro s ⟨va, rfl⟩
  simp -dsimp only [↓DL.qd, DL.qu, DL.qs, ↓DL.s_seq, mkD, D.key, dgetM, hide, hideS, Slot.fr?, Slot.m?, Slot.put, D.seqs, D.tyN, startD, List.replicate, Nat.reduceSub, Nat.reduceAdd, Nat.reduceLeDiff, wipeD, unw, freeAt, Slot.free, Nat.reduceEqDiff, id_eq, eq_self, c_StripeForm_init, c__law_cell, c__law_is_right, c__law_mix, c__law_names, c__law_stripe, c_after, c_can_do, c_stripe_machine, T.ex_WreckError_WreckError, T.ex_InvalidMachine_WreckError, T.ex_InvalidDisk_WreckError, T.ex_InvalidSketch_WreckError, T.ex_NoSuchDeed_WreckError, T.ex_CannotDo_WreckError, T.ex_InvalidForm_WreckError, T.ex_InvalidFile_WreckError, T.ex_NoRoom_WreckError, DL.o_isE T.xi_WreckError T.is_WreckError_InvalidFile, DL.o_isE T.xi_InvalidMachine T.is_InvalidMachine_InvalidFile, DL.o_isE T.xi_InvalidDisk T.is_InvalidDisk_InvalidFile, DL.o_isE T.xi_InvalidSketch T.is_InvalidSketch_InvalidFile, DL.o_isE T.xi_NoSuchDeed T.is_NoSuchDeed_InvalidFile, DL.o_isX T.xi_CannotDo T.is_CannotDo_InvalidFile, DL.o_isE T.xi_InvalidForm T.is_InvalidForm_InvalidFile, DL.o_isE T.xi_InvalidFile T.is_InvalidFile_InvalidFile, DL.o_isE T.xi_NoRoom T.is_NoRoom_InvalidFile, DL.o_isE T.xi_WreckError T.is_WreckError_NoRoom, DL.o_isE T.xi_InvalidMachine T.is_InvalidMachine_NoRoom, DL.o_isE T.xi_InvalidDisk T.is_InvalidDisk_NoRoom, DL.o_isE T.xi_InvalidSketch T.is_InvalidSketch_NoRoom, DL.o_isE T.xi_NoSuchDeed T.is_NoSuchDeed_NoRoom, DL.o_isX T.xi_CannotDo T.is_CannotDo_NoRoom, DL.o_isE T.xi_InvalidForm T.is_InvalidForm_NoRoom, DL.o_isE T.xi_InvalidFile T.is_InvalidFile_NoRoom, DL.o_isE T.xi_NoRoom T.is_NoRoom_NoRoom, DL.o_isE T.xi_WreckError T.is_WreckError_InvalidForm, DL.o_isE T.xi_InvalidMachine T.is_InvalidMachine_InvalidForm, DL.o_isE T.xi_InvalidDisk T.is_InvalidDisk_InvalidForm, DL.o_isE T.xi_InvalidSketch T.is_InvalidSketch_InvalidForm, DL.o_isE T.xi_NoSuchDeed T.is_NoSuchDeed_InvalidForm, DL.o_isX T.xi_CannotDo T.is_CannotDo_InvalidForm, DL.o_isE T.xi_InvalidForm T.is_InvalidForm_InvalidForm, DL.o_isE T.xi_InvalidFile T.is_InvalidFile_InvalidForm, DL.o_isE T.xi_NoRoom T.is_NoRoom_InvalidForm, qc, ↓DL.qtd, DL.qtu, ↓DL.qfd, DL.qfu]
  refine ⟨fun v e v2 v5 => ?_, fun hb a => ?_⟩
  rotate_left
  · refine br_dec (fun c => ?_) (fun _ => ?_)
    · have z5 : decide (va ≤ 5) = false := decide_eq_false (by omega)
      simp -dsimp only [↓DL.qd, DL.qu, DL.qs, ↓DL.s_seq, mkD, D.key, dgetM, hide, hideS, Slot.fr?, Slot.m?, Slot.put, D.seqs, D.tyN, startD, List.replicate, Nat.reduceSub, Nat.reduceAdd, Nat.reduceLeDiff, wipeD, unw, freeAt, Slot.free, Nat.reduceEqDiff, id_eq, eq_self, c_StripeForm_init, c__law_cell, c__law_is_right, c__law_mix, c__law_names, c__law_stripe, c_after, c_can_do, c_stripe_machine, T.ex_WreckError_WreckError, T.ex_InvalidMachine_WreckError, T.ex_InvalidDisk_WreckError, T.ex_InvalidSketch_WreckError, T.ex_NoSuchDeed_WreckError, T.ex_CannotDo_WreckError, T.ex_InvalidForm_WreckError, T.ex_InvalidFile_WreckError, T.ex_NoRoom_WreckError, DL.o_isE T.xi_WreckError T.is_WreckError_InvalidFile, DL.o_isE T.xi_InvalidMachine T.is_InvalidMachine_InvalidFile, DL.o_isE T.xi_InvalidDisk T.is_InvalidDisk_InvalidFile, DL.o_isE T.xi_InvalidSketch T.is_InvalidSketch_InvalidFile, DL.o_isE T.xi_NoSuchDeed T.is_NoSuchDeed_InvalidFile, DL.o_isX T.xi_CannotDo T.is_CannotDo_InvalidFile, DL.o_isE T.xi_InvalidForm T.is_InvalidForm_InvalidFile, DL.o_isE T.xi_InvalidFile T.is_InvalidFile_InvalidFile, DL.o_isE T.xi_NoRoom T.is_NoRoom_InvalidFile, DL.o_isE T.xi_WreckError T.is_WreckError_NoRoom, DL.o_isE T.xi_InvalidMachine T.is_InvalidMachine_NoRoom, DL.o_isE T.xi_InvalidDisk T.is_InvalidDisk_NoRoom, DL.o_isE T.xi_InvalidSketch T.is_InvalidSketch_NoRoom, DL.o_isE T.xi_NoSuchDeed T.is_NoSuchDeed_NoRoom, DL.o_isX T.xi_CannotDo T.is_CannotDo_NoRoom, DL.o_isE T.xi_InvalidForm T.is_InvalidForm_NoRoom, DL.o_isE T.xi_InvalidFile T.is_InvalidFile_NoRoom, DL.o_isE T.xi_NoRoom T.is_NoRoom_NoRoom, DL.o_isE T.xi_WreckError T.is_WreckError_InvalidForm, DL.o_isE T.xi_InvalidMachine T.is_InvalidMachine_InvalidForm, DL.o_isE T.xi_InvalidDisk T.is_InvalidDisk_InvalidForm, DL.o_isE T.xi_InvalidSketch T.is_InvalidSketch_InvalidForm, DL.o_isE T.xi_NoSuchDeed T.is_NoSuchDeed_InvalidForm, DL.o_isX T.xi_CannotDo T.is_CannotDo_InvalidForm, DL.o_isE T.xi_InvalidForm T.is_InvalidForm_InvalidForm, DL.o_isE T.xi_InvalidFile T.is_InvalidFile_InvalidForm, DL.o_isE T.xi_NoRoom T.is_NoRoom_InvalidForm, qc, ↓DL.qtd, DL.qtu, ↓DL.qfd, DL.qfu,  z5]
      exact h
    · simp -dsimp only [↓DL.qd, DL.qu, DL.qs, ↓DL.s_seq, mkD, D.key, dgetM, hide, hideS, Slot.fr?, Slot.m?, Slot.put, D.seqs, D.tyN, startD, List.replicate, Nat.reduceSub, Nat.reduceAdd, Nat.reduceLeDiff, wipeD, unw, freeAt, Slot.free, Nat.reduceEqDiff, id_eq, eq_self, c_StripeForm_init, c__law_cell, c__law_is_right, c__law_mix, c__law_names, c__law_stripe, c_after, c_can_do, c_stripe_machine, T.ex_WreckError_WreckError, T.ex_InvalidMachine_WreckError, T.ex_InvalidDisk_WreckError, T.ex_InvalidSketch_WreckError, T.ex_NoSuchDeed_WreckError, T.ex_CannotDo_WreckError, T.ex_InvalidForm_WreckError, T.ex_InvalidFile_WreckError, T.ex_NoRoom_WreckError, DL.o_isE T.xi_WreckError T.is_WreckError_InvalidFile, DL.o_isE T.xi_InvalidMachine T.is_InvalidMachine_InvalidFile, DL.o_isE T.xi_InvalidDisk T.is_InvalidDisk_InvalidFile, DL.o_isE T.xi_InvalidSketch T.is_InvalidSketch_InvalidFile, DL.o_isE T.xi_NoSuchDeed T.is_NoSuchDeed_InvalidFile, DL.o_isX T.xi_CannotDo T.is_CannotDo_InvalidFile, DL.o_isE T.xi_InvalidForm T.is_InvalidForm_InvalidFile, DL.o_isE T.xi_InvalidFile T.is_InvalidFile_InvalidFile, DL.o_isE T.xi_NoRoom T.is_NoRoom_InvalidFile, DL.o_isE T.xi_WreckError T.is_WreckError_NoRoom, DL.o_isE T.xi_InvalidMachine T.is_InvalidMachine_NoRoom, DL.o_isE T.xi_InvalidDisk T.is_InvalidDisk_NoRoom, DL.o_isE T.xi_InvalidSketch T.is_InvalidSketch_NoRoom, DL.o_isE T.xi_NoSuchDeed T.is_NoSuchDeed_NoRoom, DL.o_isX T.xi_CannotDo T.is_CannotDo_NoRoom, DL.o_isE T.xi_InvalidForm T.is_InvalidForm_NoRoom, DL.o_isE T.xi_InvalidFile T.is_InvalidFile_NoRoom, DL.o_isE T.xi_NoRoom T.is_NoRoom_NoRoom, DL.o_isE T.xi_WreckError T.is_WreckError_InvalidForm, DL.o_isE T.xi_InvalidMachine T.is_InvalidMachine_InvalidForm, DL.o_isE T.xi_InvalidDisk T.is_InvalidDisk_InvalidForm, DL.o_isE T.xi_InvalidSketch T.is_InvalidSketch_InvalidForm, DL.o_isE T.xi_NoSuchDeed T.is_NoSuchDeed_InvalidForm, DL.o_isX T.xi_CannotDo T.is_CannotDo_InvalidForm, DL.o_isE T.xi_InvalidForm T.is_InvalidForm_InvalidForm, DL.o_isE T.xi_InvalidFile T.is_InvalidFile_InvalidForm, DL.o_isE T.xi_NoRoom T.is_NoRoom_InvalidForm, qc, ↓DL.qtd, DL.qtu, ↓DL.qfd, DL.qfu]
      exact h
  subst e
  rw [form_frz]
  have eF : formD C_StripeForm v = .obj C_StripeForm [("alphabet", .int (v : Int))] := rfl
  refine br_dec (fun _ => ?_) (fun c => absurd c (by omega))
  simp -dsimp only [↓DL.qd, DL.qu, DL.qs, ↓DL.s_seq, mkD, D.key, dgetM, hide, hideS, Slot.fr?, Slot.m?, Slot.put, D.seqs, D.tyN, startD, List.replicate, Nat.reduceSub, Nat.reduceAdd, Nat.reduceLeDiff, wipeD, unw, freeAt, Slot.free, Nat.reduceEqDiff, id_eq, eq_self, c_StripeForm_init, c__law_cell, c__law_is_right, c__law_mix, c__law_names, c__law_stripe, c_after, c_can_do, c_stripe_machine, T.ex_WreckError_WreckError, T.ex_InvalidMachine_WreckError, T.ex_InvalidDisk_WreckError, T.ex_InvalidSketch_WreckError, T.ex_NoSuchDeed_WreckError, T.ex_CannotDo_WreckError, T.ex_InvalidForm_WreckError, T.ex_InvalidFile_WreckError, T.ex_NoRoom_WreckError, DL.o_isE T.xi_WreckError T.is_WreckError_InvalidFile, DL.o_isE T.xi_InvalidMachine T.is_InvalidMachine_InvalidFile, DL.o_isE T.xi_InvalidDisk T.is_InvalidDisk_InvalidFile, DL.o_isE T.xi_InvalidSketch T.is_InvalidSketch_InvalidFile, DL.o_isE T.xi_NoSuchDeed T.is_NoSuchDeed_InvalidFile, DL.o_isX T.xi_CannotDo T.is_CannotDo_InvalidFile, DL.o_isE T.xi_InvalidForm T.is_InvalidForm_InvalidFile, DL.o_isE T.xi_InvalidFile T.is_InvalidFile_InvalidFile, DL.o_isE T.xi_NoRoom T.is_NoRoom_InvalidFile, DL.o_isE T.xi_WreckError T.is_WreckError_NoRoom, DL.o_isE T.xi_InvalidMachine T.is_InvalidMachine_NoRoom, DL.o_isE T.xi_InvalidDisk T.is_InvalidDisk_NoRoom, DL.o_isE T.xi_InvalidSketch T.is_InvalidSketch_NoRoom, DL.o_isE T.xi_NoSuchDeed T.is_NoSuchDeed_NoRoom, DL.o_isX T.xi_CannotDo T.is_CannotDo_NoRoom, DL.o_isE T.xi_InvalidForm T.is_InvalidForm_NoRoom, DL.o_isE T.xi_InvalidFile T.is_InvalidFile_NoRoom, DL.o_isE T.xi_NoRoom T.is_NoRoom_NoRoom, DL.o_isE T.xi_WreckError T.is_WreckError_InvalidForm, DL.o_isE T.xi_InvalidMachine T.is_InvalidMachine_InvalidForm, DL.o_isE T.xi_InvalidDisk T.is_InvalidDisk_InvalidForm, DL.o_isE T.xi_InvalidSketch T.is_InvalidSketch_InvalidForm, DL.o_isE T.xi_NoSuchDeed T.is_NoSuchDeed_InvalidForm, DL.o_isX T.xi_CannotDo T.is_CannotDo_InvalidForm, DL.o_isE T.xi_InvalidForm T.is_InvalidForm_InvalidForm, DL.o_isE T.xi_InvalidFile T.is_InvalidFile_InvalidForm, DL.o_isE T.xi_NoRoom T.is_NoRoom_InvalidForm, qc, ↓DL.qtd, DL.qtu, ↓DL.qfd, DL.qfu,  eF]
  rw [show (!decide ((v : Int) ≤ 5)) = false by simp; omega]
  simp -dsimp only [↓DL.qd, DL.qu, DL.qs, ↓DL.s_seq, mkD, D.key, dgetM, hide, hideS, Slot.fr?, Slot.m?, Slot.put, D.seqs, D.tyN, startD, List.replicate, Nat.reduceSub, Nat.reduceAdd, Nat.reduceLeDiff, wipeD, unw, freeAt, Slot.free, Nat.reduceEqDiff, id_eq, eq_self, c_StripeForm_init, c__law_cell, c__law_is_right, c__law_mix, c__law_names, c__law_stripe, c_after, c_can_do, c_stripe_machine, T.ex_WreckError_WreckError, T.ex_InvalidMachine_WreckError, T.ex_InvalidDisk_WreckError, T.ex_InvalidSketch_WreckError, T.ex_NoSuchDeed_WreckError, T.ex_CannotDo_WreckError, T.ex_InvalidForm_WreckError, T.ex_InvalidFile_WreckError, T.ex_NoRoom_WreckError, DL.o_isE T.xi_WreckError T.is_WreckError_InvalidFile, DL.o_isE T.xi_InvalidMachine T.is_InvalidMachine_InvalidFile, DL.o_isE T.xi_InvalidDisk T.is_InvalidDisk_InvalidFile, DL.o_isE T.xi_InvalidSketch T.is_InvalidSketch_InvalidFile, DL.o_isE T.xi_NoSuchDeed T.is_NoSuchDeed_InvalidFile, DL.o_isX T.xi_CannotDo T.is_CannotDo_InvalidFile, DL.o_isE T.xi_InvalidForm T.is_InvalidForm_InvalidFile, DL.o_isE T.xi_InvalidFile T.is_InvalidFile_InvalidFile, DL.o_isE T.xi_NoRoom T.is_NoRoom_InvalidFile, DL.o_isE T.xi_WreckError T.is_WreckError_NoRoom, DL.o_isE T.xi_InvalidMachine T.is_InvalidMachine_NoRoom, DL.o_isE T.xi_InvalidDisk T.is_InvalidDisk_NoRoom, DL.o_isE T.xi_InvalidSketch T.is_InvalidSketch_NoRoom, DL.o_isE T.xi_NoSuchDeed T.is_NoSuchDeed_NoRoom, DL.o_isX T.xi_CannotDo T.is_CannotDo_NoRoom, DL.o_isE T.xi_InvalidForm T.is_InvalidForm_NoRoom, DL.o_isE T.xi_InvalidFile T.is_InvalidFile_NoRoom, DL.o_isE T.xi_NoRoom T.is_NoRoom_NoRoom, DL.o_isE T.xi_WreckError T.is_WreckError_InvalidForm, DL.o_isE T.xi_InvalidMachine T.is_InvalidMachine_InvalidForm, DL.o_isE T.xi_InvalidDisk T.is_InvalidDisk_InvalidForm, DL.o_isE T.xi_InvalidSketch T.is_InvalidSketch_InvalidForm, DL.o_isE T.xi_NoSuchDeed T.is_NoSuchDeed_InvalidForm, DL.o_isX T.xi_CannotDo T.is_CannotDo_InvalidForm, DL.o_isE T.xi_InvalidForm T.is_InvalidForm_InvalidForm, DL.o_isE T.xi_InvalidFile T.is_InvalidFile_InvalidForm, DL.o_isE T.xi_NoRoom T.is_NoRoom_InvalidForm, qc, ↓DL.qtd, DL.qtu, ↓DL.qfd, DL.qfu,  eF]
  refine ⟨v, rfl, v2, v5, v, rfl, v2, v5, fun nm hnm => ?_⟩
  have eM : machD C_Machine (SM v) = .obj C_Machine [("cells", .tup ((SM v).cells.map cellD)), ("deeds", .tup ((SM v).ds.map deedD)), ("first", tupI (SM v).fi)] := rfl
  simp -dsimp only [↓DL.qd, DL.qu, DL.qs, ↓DL.s_seq, mkD, D.key, dgetM, hide, hideS, Slot.fr?, Slot.m?, Slot.put, D.seqs, D.tyN, startD, List.replicate, Nat.reduceSub, Nat.reduceAdd, Nat.reduceLeDiff, wipeD, unw, freeAt, Slot.free, Nat.reduceEqDiff, id_eq, eq_self, c_StripeForm_init, c__law_cell, c__law_is_right, c__law_mix, c__law_names, c__law_stripe, c_after, c_can_do, c_stripe_machine, T.ex_WreckError_WreckError, T.ex_InvalidMachine_WreckError, T.ex_InvalidDisk_WreckError, T.ex_InvalidSketch_WreckError, T.ex_NoSuchDeed_WreckError, T.ex_CannotDo_WreckError, T.ex_InvalidForm_WreckError, T.ex_InvalidFile_WreckError, T.ex_NoRoom_WreckError, DL.o_isE T.xi_WreckError T.is_WreckError_InvalidFile, DL.o_isE T.xi_InvalidMachine T.is_InvalidMachine_InvalidFile, DL.o_isE T.xi_InvalidDisk T.is_InvalidDisk_InvalidFile, DL.o_isE T.xi_InvalidSketch T.is_InvalidSketch_InvalidFile, DL.o_isE T.xi_NoSuchDeed T.is_NoSuchDeed_InvalidFile, DL.o_isX T.xi_CannotDo T.is_CannotDo_InvalidFile, DL.o_isE T.xi_InvalidForm T.is_InvalidForm_InvalidFile, DL.o_isE T.xi_InvalidFile T.is_InvalidFile_InvalidFile, DL.o_isE T.xi_NoRoom T.is_NoRoom_InvalidFile, DL.o_isE T.xi_WreckError T.is_WreckError_NoRoom, DL.o_isE T.xi_InvalidMachine T.is_InvalidMachine_NoRoom, DL.o_isE T.xi_InvalidDisk T.is_InvalidDisk_NoRoom, DL.o_isE T.xi_InvalidSketch T.is_InvalidSketch_NoRoom, DL.o_isE T.xi_NoSuchDeed T.is_NoSuchDeed_NoRoom, DL.o_isX T.xi_CannotDo T.is_CannotDo_NoRoom, DL.o_isE T.xi_InvalidForm T.is_InvalidForm_NoRoom, DL.o_isE T.xi_InvalidFile T.is_InvalidFile_NoRoom, DL.o_isE T.xi_NoRoom T.is_NoRoom_NoRoom, DL.o_isE T.xi_WreckError T.is_WreckError_InvalidForm, DL.o_isE T.xi_InvalidMachine T.is_InvalidMachine_InvalidForm, DL.o_isE T.xi_InvalidDisk T.is_InvalidDisk_InvalidForm, DL.o_isE T.xi_InvalidSketch T.is_InvalidSketch_InvalidForm, DL.o_isE T.xi_NoSuchDeed T.is_NoSuchDeed_InvalidForm, DL.o_isX T.xi_CannotDo T.is_CannotDo_InvalidForm, DL.o_isE T.xi_InvalidForm T.is_InvalidForm_InvalidForm, DL.o_isE T.xi_InvalidFile T.is_InvalidFile_InvalidForm, DL.o_isE T.xi_NoRoom T.is_NoRoom_InvalidForm, qc, ↓DL.qtd, DL.qtu, ↓DL.qfd, DL.qfu,  eM]
  have hdl := SM_len ⟨v2, v5⟩
  have W := (SM_ok5 ⟨v2, v5⟩).wf
  refine ⟨by decide, by decide, by decide, by decide, by decide, opz_of (neSame (n := 2) ok_cells (by decide)) ?_⟩
  simp -dsimp only [↓DL.qd, DL.qu, DL.qs, ↓DL.s_seq, mkD, D.key, dgetM, hide, hideS, Slot.fr?, Slot.m?, Slot.put, D.seqs, D.tyN, startD, List.replicate, Nat.reduceSub, Nat.reduceAdd, Nat.reduceLeDiff, wipeD, unw, freeAt, Slot.free, Nat.reduceEqDiff, id_eq, eq_self, c_StripeForm_init, c__law_cell, c__law_is_right, c__law_mix, c__law_names, c__law_stripe, c_after, c_can_do, c_stripe_machine, T.ex_WreckError_WreckError, T.ex_InvalidMachine_WreckError, T.ex_InvalidDisk_WreckError, T.ex_InvalidSketch_WreckError, T.ex_NoSuchDeed_WreckError, T.ex_CannotDo_WreckError, T.ex_InvalidForm_WreckError, T.ex_InvalidFile_WreckError, T.ex_NoRoom_WreckError, DL.o_isE T.xi_WreckError T.is_WreckError_InvalidFile, DL.o_isE T.xi_InvalidMachine T.is_InvalidMachine_InvalidFile, DL.o_isE T.xi_InvalidDisk T.is_InvalidDisk_InvalidFile, DL.o_isE T.xi_InvalidSketch T.is_InvalidSketch_InvalidFile, DL.o_isE T.xi_NoSuchDeed T.is_NoSuchDeed_InvalidFile, DL.o_isX T.xi_CannotDo T.is_CannotDo_InvalidFile, DL.o_isE T.xi_InvalidForm T.is_InvalidForm_InvalidFile, DL.o_isE T.xi_InvalidFile T.is_InvalidFile_InvalidFile, DL.o_isE T.xi_NoRoom T.is_NoRoom_InvalidFile, DL.o_isE T.xi_WreckError T.is_WreckError_NoRoom, DL.o_isE T.xi_InvalidMachine T.is_InvalidMachine_NoRoom, DL.o_isE T.xi_InvalidDisk T.is_InvalidDisk_NoRoom, DL.o_isE T.xi_InvalidSketch T.is_InvalidSketch_NoRoom, DL.o_isE T.xi_NoSuchDeed T.is_NoSuchDeed_NoRoom, DL.o_isX T.xi_CannotDo T.is_CannotDo_NoRoom, DL.o_isE T.xi_InvalidForm T.is_InvalidForm_NoRoom, DL.o_isE T.xi_InvalidFile T.is_InvalidFile_NoRoom, DL.o_isE T.xi_NoRoom T.is_NoRoom_NoRoom, DL.o_isE T.xi_WreckError T.is_WreckError_InvalidForm, DL.o_isE T.xi_InvalidMachine T.is_InvalidMachine_InvalidForm, DL.o_isE T.xi_InvalidDisk T.is_InvalidDisk_InvalidForm, DL.o_isE T.xi_InvalidSketch T.is_InvalidSketch_InvalidForm, DL.o_isE T.xi_NoSuchDeed T.is_NoSuchDeed_InvalidForm, DL.o_isX T.xi_CannotDo T.is_CannotDo_InvalidForm, DL.o_isE T.xi_InvalidForm T.is_InvalidForm_InvalidForm, DL.o_isE T.xi_InvalidFile T.is_InvalidFile_InvalidForm, DL.o_isE T.xi_NoRoom T.is_NoRoom_InvalidForm, qc, ↓DL.qtd, DL.qtu, ↓DL.qfd, DL.qfu,  eM]
  refine ⟨by decide, opz_of (neSame (n := 1) (okD.tupI (l := (SM v).fi)) (by decide)) ?_⟩
  simp -dsimp only [↓DL.qd, DL.qu, DL.qs, ↓DL.s_seq, mkD, D.key, dgetM, hide, hideS, Slot.fr?, Slot.m?, Slot.put, D.seqs, D.tyN, startD, List.replicate, Nat.reduceSub, Nat.reduceAdd, Nat.reduceLeDiff, wipeD, unw, freeAt, Slot.free, Nat.reduceEqDiff, id_eq, eq_self, c_StripeForm_init, c__law_cell, c__law_is_right, c__law_mix, c__law_names, c__law_stripe, c_after, c_can_do, c_stripe_machine, T.ex_WreckError_WreckError, T.ex_InvalidMachine_WreckError, T.ex_InvalidDisk_WreckError, T.ex_InvalidSketch_WreckError, T.ex_NoSuchDeed_WreckError, T.ex_CannotDo_WreckError, T.ex_InvalidForm_WreckError, T.ex_InvalidFile_WreckError, T.ex_NoRoom_WreckError, DL.o_isE T.xi_WreckError T.is_WreckError_InvalidFile, DL.o_isE T.xi_InvalidMachine T.is_InvalidMachine_InvalidFile, DL.o_isE T.xi_InvalidDisk T.is_InvalidDisk_InvalidFile, DL.o_isE T.xi_InvalidSketch T.is_InvalidSketch_InvalidFile, DL.o_isE T.xi_NoSuchDeed T.is_NoSuchDeed_InvalidFile, DL.o_isX T.xi_CannotDo T.is_CannotDo_InvalidFile, DL.o_isE T.xi_InvalidForm T.is_InvalidForm_InvalidFile, DL.o_isE T.xi_InvalidFile T.is_InvalidFile_InvalidFile, DL.o_isE T.xi_NoRoom T.is_NoRoom_InvalidFile, DL.o_isE T.xi_WreckError T.is_WreckError_NoRoom, DL.o_isE T.xi_InvalidMachine T.is_InvalidMachine_NoRoom, DL.o_isE T.xi_InvalidDisk T.is_InvalidDisk_NoRoom, DL.o_isE T.xi_InvalidSketch T.is_InvalidSketch_NoRoom, DL.o_isE T.xi_NoSuchDeed T.is_NoSuchDeed_NoRoom, DL.o_isX T.xi_CannotDo T.is_CannotDo_NoRoom, DL.o_isE T.xi_InvalidForm T.is_InvalidForm_NoRoom, DL.o_isE T.xi_InvalidFile T.is_InvalidFile_NoRoom, DL.o_isE T.xi_NoRoom T.is_NoRoom_NoRoom, DL.o_isE T.xi_WreckError T.is_WreckError_InvalidForm, DL.o_isE T.xi_InvalidMachine T.is_InvalidMachine_InvalidForm, DL.o_isE T.xi_InvalidDisk T.is_InvalidDisk_InvalidForm, DL.o_isE T.xi_InvalidSketch T.is_InvalidSketch_InvalidForm, DL.o_isE T.xi_NoSuchDeed T.is_NoSuchDeed_InvalidForm, DL.o_isX T.xi_CannotDo T.is_CannotDo_InvalidForm, DL.o_isE T.xi_InvalidForm T.is_InvalidForm_InvalidForm, DL.o_isE T.xi_InvalidFile T.is_InvalidFile_InvalidForm, DL.o_isE T.xi_NoRoom T.is_NoRoom_InvalidForm, qc, ↓DL.qtd, DL.qtu, ↓DL.qfd, DL.qfu,  eM]
  refine lcR_mapE (emb := deedD) (Eq _) nmD (by unfold sizeLine; omega) rfl ?_ ?_
  · rintro d hd s rfl R hR
    simp -dsimp only [↓DL.qd, DL.qu, DL.qs, ↓DL.s_seq, mkD, D.key, dgetM, hide, hideS, Slot.fr?, Slot.m?, Slot.put, D.seqs, D.tyN, startD, List.replicate, Nat.reduceSub, Nat.reduceAdd, Nat.reduceLeDiff, wipeD, unw, freeAt, Slot.free, Nat.reduceEqDiff, id_eq, eq_self, c_StripeForm_init, c__law_cell, c__law_is_right, c__law_mix, c__law_names, c__law_stripe, c_after, c_can_do, c_stripe_machine, T.ex_WreckError_WreckError, T.ex_InvalidMachine_WreckError, T.ex_InvalidDisk_WreckError, T.ex_InvalidSketch_WreckError, T.ex_NoSuchDeed_WreckError, T.ex_CannotDo_WreckError, T.ex_InvalidForm_WreckError, T.ex_InvalidFile_WreckError, T.ex_NoRoom_WreckError, DL.o_isE T.xi_WreckError T.is_WreckError_InvalidFile, DL.o_isE T.xi_InvalidMachine T.is_InvalidMachine_InvalidFile, DL.o_isE T.xi_InvalidDisk T.is_InvalidDisk_InvalidFile, DL.o_isE T.xi_InvalidSketch T.is_InvalidSketch_InvalidFile, DL.o_isE T.xi_NoSuchDeed T.is_NoSuchDeed_InvalidFile, DL.o_isX T.xi_CannotDo T.is_CannotDo_InvalidFile, DL.o_isE T.xi_InvalidForm T.is_InvalidForm_InvalidFile, DL.o_isE T.xi_InvalidFile T.is_InvalidFile_InvalidFile, DL.o_isE T.xi_NoRoom T.is_NoRoom_InvalidFile, DL.o_isE T.xi_WreckError T.is_WreckError_NoRoom, DL.o_isE T.xi_InvalidMachine T.is_InvalidMachine_NoRoom, DL.o_isE T.xi_InvalidDisk T.is_InvalidDisk_NoRoom, DL.o_isE T.xi_InvalidSketch T.is_InvalidSketch_NoRoom, DL.o_isE T.xi_NoSuchDeed T.is_NoSuchDeed_NoRoom, DL.o_isX T.xi_CannotDo T.is_CannotDo_NoRoom, DL.o_isE T.xi_InvalidForm T.is_InvalidForm_NoRoom, DL.o_isE T.xi_InvalidFile T.is_InvalidFile_NoRoom, DL.o_isE T.xi_NoRoom T.is_NoRoom_NoRoom, DL.o_isE T.xi_WreckError T.is_WreckError_InvalidForm, DL.o_isE T.xi_InvalidMachine T.is_InvalidMachine_InvalidForm, DL.o_isE T.xi_InvalidDisk T.is_InvalidDisk_InvalidForm, DL.o_isE T.xi_InvalidSketch T.is_InvalidSketch_InvalidForm, DL.o_isE T.xi_NoSuchDeed T.is_NoSuchDeed_InvalidForm, DL.o_isX T.xi_CannotDo T.is_CannotDo_InvalidForm, DL.o_isE T.xi_InvalidForm T.is_InvalidForm_InvalidForm, DL.o_isE T.xi_InvalidFile T.is_InvalidFile_InvalidForm, DL.o_isE T.xi_NoRoom T.is_NoRoom_InvalidForm, qc, ↓DL.qtd, DL.qtu, ↓DL.qfd, DL.qfu,  deedD]
    exact hR _ _ rfl rfl
  rintro s' rfl
  simp -dsimp only [↓DL.qd, DL.qu, DL.qs, ↓DL.s_seq, mkD, D.key, dgetM, hide, hideS, Slot.fr?, Slot.m?, Slot.put, D.seqs, D.tyN, startD, List.replicate, Nat.reduceSub, Nat.reduceAdd, Nat.reduceLeDiff, wipeD, unw, freeAt, Slot.free, Nat.reduceEqDiff, id_eq, eq_self, c_StripeForm_init, c__law_cell, c__law_is_right, c__law_mix, c__law_names, c__law_stripe, c_after, c_can_do, c_stripe_machine, T.ex_WreckError_WreckError, T.ex_InvalidMachine_WreckError, T.ex_InvalidDisk_WreckError, T.ex_InvalidSketch_WreckError, T.ex_NoSuchDeed_WreckError, T.ex_CannotDo_WreckError, T.ex_InvalidForm_WreckError, T.ex_InvalidFile_WreckError, T.ex_NoRoom_WreckError, DL.o_isE T.xi_WreckError T.is_WreckError_InvalidFile, DL.o_isE T.xi_InvalidMachine T.is_InvalidMachine_InvalidFile, DL.o_isE T.xi_InvalidDisk T.is_InvalidDisk_InvalidFile, DL.o_isE T.xi_InvalidSketch T.is_InvalidSketch_InvalidFile, DL.o_isE T.xi_NoSuchDeed T.is_NoSuchDeed_InvalidFile, DL.o_isX T.xi_CannotDo T.is_CannotDo_InvalidFile, DL.o_isE T.xi_InvalidForm T.is_InvalidForm_InvalidFile, DL.o_isE T.xi_InvalidFile T.is_InvalidFile_InvalidFile, DL.o_isE T.xi_NoRoom T.is_NoRoom_InvalidFile, DL.o_isE T.xi_WreckError T.is_WreckError_NoRoom, DL.o_isE T.xi_InvalidMachine T.is_InvalidMachine_NoRoom, DL.o_isE T.xi_InvalidDisk T.is_InvalidDisk_NoRoom, DL.o_isE T.xi_InvalidSketch T.is_InvalidSketch_NoRoom, DL.o_isE T.xi_NoSuchDeed T.is_NoSuchDeed_NoRoom, DL.o_isX T.xi_CannotDo T.is_CannotDo_NoRoom, DL.o_isE T.xi_InvalidForm T.is_InvalidForm_NoRoom, DL.o_isE T.xi_InvalidFile T.is_InvalidFile_NoRoom, DL.o_isE T.xi_NoRoom T.is_NoRoom_NoRoom, DL.o_isE T.xi_WreckError T.is_WreckError_InvalidForm, DL.o_isE T.xi_InvalidMachine T.is_InvalidMachine_InvalidForm, DL.o_isE T.xi_InvalidDisk T.is_InvalidDisk_InvalidForm, DL.o_isE T.xi_InvalidSketch T.is_InvalidSketch_InvalidForm, DL.o_isE T.xi_NoSuchDeed T.is_NoSuchDeed_InvalidForm, DL.o_isX T.xi_CannotDo T.is_CannotDo_InvalidForm, DL.o_isE T.xi_InvalidForm T.is_InvalidForm_InvalidForm, DL.o_isE T.xi_InvalidFile T.is_InvalidFile_InvalidForm, DL.o_isE T.xi_NoRoom T.is_NoRoom_InvalidForm, qc, ↓DL.qtd, DL.qtu, ↓DL.qfd, DL.qfu,  hnm]
  refine opz_of (neSame (n := 1) (ok_names ⟨v2, v5⟩) (by decide)) ?_
  simp -dsimp only [↓DL.qd, DL.qu, DL.qs, ↓DL.s_seq, mkD, D.key, dgetM, hide, hideS, Slot.fr?, Slot.m?, Slot.put, D.seqs, D.tyN, startD, List.replicate, Nat.reduceSub, Nat.reduceAdd, Nat.reduceLeDiff, wipeD, unw, freeAt, Slot.free, Nat.reduceEqDiff, id_eq, eq_self, c_StripeForm_init, c__law_cell, c__law_is_right, c__law_mix, c__law_names, c__law_stripe, c_after, c_can_do, c_stripe_machine, T.ex_WreckError_WreckError, T.ex_InvalidMachine_WreckError, T.ex_InvalidDisk_WreckError, T.ex_InvalidSketch_WreckError, T.ex_NoSuchDeed_WreckError, T.ex_CannotDo_WreckError, T.ex_InvalidForm_WreckError, T.ex_InvalidFile_WreckError, T.ex_NoRoom_WreckError, DL.o_isE T.xi_WreckError T.is_WreckError_InvalidFile, DL.o_isE T.xi_InvalidMachine T.is_InvalidMachine_InvalidFile, DL.o_isE T.xi_InvalidDisk T.is_InvalidDisk_InvalidFile, DL.o_isE T.xi_InvalidSketch T.is_InvalidSketch_InvalidFile, DL.o_isE T.xi_NoSuchDeed T.is_NoSuchDeed_InvalidFile, DL.o_isX T.xi_CannotDo T.is_CannotDo_InvalidFile, DL.o_isE T.xi_InvalidForm T.is_InvalidForm_InvalidFile, DL.o_isE T.xi_InvalidFile T.is_InvalidFile_InvalidFile, DL.o_isE T.xi_NoRoom T.is_NoRoom_InvalidFile, DL.o_isE T.xi_WreckError T.is_WreckError_NoRoom, DL.o_isE T.xi_InvalidMachine T.is_InvalidMachine_NoRoom, DL.o_isE T.xi_InvalidDisk T.is_InvalidDisk_NoRoom, DL.o_isE T.xi_InvalidSketch T.is_InvalidSketch_NoRoom, DL.o_isE T.xi_NoSuchDeed T.is_NoSuchDeed_NoRoom, DL.o_isX T.xi_CannotDo T.is_CannotDo_NoRoom, DL.o_isE T.xi_InvalidForm T.is_InvalidForm_NoRoom, DL.o_isE T.xi_InvalidFile T.is_InvalidFile_NoRoom, DL.o_isE T.xi_NoRoom T.is_NoRoom_NoRoom, DL.o_isE T.xi_WreckError T.is_WreckError_InvalidForm, DL.o_isE T.xi_InvalidMachine T.is_InvalidMachine_InvalidForm, DL.o_isE T.xi_InvalidDisk T.is_InvalidDisk_InvalidForm, DL.o_isE T.xi_InvalidSketch T.is_InvalidSketch_InvalidForm, DL.o_isE T.xi_NoSuchDeed T.is_NoSuchDeed_InvalidForm, DL.o_isX T.xi_CannotDo T.is_CannotDo_InvalidForm, DL.o_isE T.xi_InvalidForm T.is_InvalidForm_InvalidForm, DL.o_isE T.xi_InvalidFile T.is_InvalidFile_InvalidForm, DL.o_isE T.xi_NoRoom T.is_NoRoom_InvalidForm, qc, ↓DL.qtd, DL.qtu, ↓DL.qfd, DL.qfu]
  refine ⟨by decide, by decide, for_rng (fun _ s => ∃ (g : DL.M) (ce a b c d : DL.Slot), s = [.v (.fz (.scr ns)), .v (.fz (.int (v : Int))), .un, .v (.fz (machD C_Machine (SM v))), .v g, ce, a, .un, .v (.fz (formD C_StripeForm v)), b, c, .un, .un, d, .un, .un] ∧ g.frz = .lst ((SM v).ds.map nmD) ∧ a.pinned = false ∧ b.pinned = false ∧ c.pinned = false ∧ d.pinned = false) ⟨_, _, .un, .un, .un, .un, rfl, by first | exact hnm | rfl, rfl, rfl, rfl, rfl⟩ ?_ ?_⟩
  · clear hnm
    rintro i s hi ⟨g, ce, a, b, c, d, rfl, hg, z1, z2, z3, z4⟩ N B R hN - -
    rw [Int.zero_add]
    simp -dsimp only [↓DL.qd, DL.qu, DL.qs, ↓DL.s_seq, mkD, D.key, dgetM, hide, hideS, Slot.fr?, Slot.m?, Slot.put, D.seqs, D.tyN, startD, List.replicate, Nat.reduceSub, Nat.reduceAdd, Nat.reduceLeDiff, wipeD, unw, freeAt, Slot.free, Nat.reduceEqDiff, id_eq, eq_self, c_StripeForm_init, c__law_cell, c__law_is_right, c__law_mix, c__law_names, c__law_stripe, c_after, c_can_do, c_stripe_machine, T.ex_WreckError_WreckError, T.ex_InvalidMachine_WreckError, T.ex_InvalidDisk_WreckError, T.ex_InvalidSketch_WreckError, T.ex_NoSuchDeed_WreckError, T.ex_CannotDo_WreckError, T.ex_InvalidForm_WreckError, T.ex_InvalidFile_WreckError, T.ex_NoRoom_WreckError, DL.o_isE T.xi_WreckError T.is_WreckError_InvalidFile, DL.o_isE T.xi_InvalidMachine T.is_InvalidMachine_InvalidFile, DL.o_isE T.xi_InvalidDisk T.is_InvalidDisk_InvalidFile, DL.o_isE T.xi_InvalidSketch T.is_InvalidSketch_InvalidFile, DL.o_isE T.xi_NoSuchDeed T.is_NoSuchDeed_InvalidFile, DL.o_isX T.xi_CannotDo T.is_CannotDo_InvalidFile, DL.o_isE T.xi_InvalidForm T.is_InvalidForm_InvalidFile, DL.o_isE T.xi_InvalidFile T.is_InvalidFile_InvalidFile, DL.o_isE T.xi_NoRoom T.is_NoRoom_InvalidFile, DL.o_isE T.xi_WreckError T.is_WreckError_NoRoom, DL.o_isE T.xi_InvalidMachine T.is_InvalidMachine_NoRoom, DL.o_isE T.xi_InvalidDisk T.is_InvalidDisk_NoRoom, DL.o_isE T.xi_InvalidSketch T.is_InvalidSketch_NoRoom, DL.o_isE T.xi_NoSuchDeed T.is_NoSuchDeed_NoRoom, DL.o_isX T.xi_CannotDo T.is_CannotDo_NoRoom, DL.o_isE T.xi_InvalidForm T.is_InvalidForm_NoRoom, DL.o_isE T.xi_InvalidFile T.is_InvalidFile_NoRoom, DL.o_isE T.xi_NoRoom T.is_NoRoom_NoRoom, DL.o_isE T.xi_WreckError T.is_WreckError_InvalidForm, DL.o_isE T.xi_InvalidMachine T.is_InvalidMachine_InvalidForm, DL.o_isE T.xi_InvalidDisk T.is_InvalidDisk_InvalidForm, DL.o_isE T.xi_InvalidSketch T.is_InvalidSketch_InvalidForm, DL.o_isE T.xi_NoSuchDeed T.is_NoSuchDeed_InvalidForm, DL.o_isX T.xi_CannotDo T.is_CannotDo_InvalidForm, DL.o_isE T.xi_InvalidForm T.is_InvalidForm_InvalidForm, DL.o_isE T.xi_InvalidFile T.is_InvalidFile_InvalidForm, DL.o_isE T.xi_NoRoom T.is_NoRoom_InvalidForm, qc, ↓DL.qtd, DL.qtu, ↓DL.qfd, DL.qfu,  gset_free z1]
    refine ⟨by decide, by decide, lcR_ix (n := 4) (Eq _) (fun i u => 0 ≤ u ∧ u < gi (SM v).sz i) (by decide) rfl ?_ ?_⟩
    · rintro m hm s rfl R hR
      rw [Int.zero_add]
      have ats : atI [D.int (v : Int), D.int (v : Int), D.int (v : Int), D.int 3] (m : Int) = some (.int (gi (SM v).sz m)) := by
        rcases (show m = 0 ∨ m = 1 ∨ m = 2 ∨ m = 3 by omega) with rfl | rfl | rfl | rfl <;> rfl
      have hsz : 0 < gi (SM v).sz m := by
        rcases (show m = 0 ∨ m = 1 ∨ m = 2 ∨ m = 3 by omega) with rfl | rfl | rfl | rfl
        · show 0 < (v : Int); omega
        · show 0 < (v : Int); omega
        · show 0 < (v : Int); omega
        · show 0 < (3 : Int); decide
      simp -dsimp only [↓DL.qd, DL.qu, DL.qs, ↓DL.s_seq, mkD, D.key, dgetM, hide, hideS, Slot.fr?, Slot.m?, Slot.put, D.seqs, D.tyN, startD, List.replicate, Nat.reduceSub, Nat.reduceAdd, Nat.reduceLeDiff, wipeD, unw, freeAt, Slot.free, Nat.reduceEqDiff, id_eq, eq_self, c_StripeForm_init, c__law_cell, c__law_is_right, c__law_mix, c__law_names, c__law_stripe, c_after, c_can_do, c_stripe_machine, T.ex_WreckError_WreckError, T.ex_InvalidMachine_WreckError, T.ex_InvalidDisk_WreckError, T.ex_InvalidSketch_WreckError, T.ex_NoSuchDeed_WreckError, T.ex_CannotDo_WreckError, T.ex_InvalidForm_WreckError, T.ex_InvalidFile_WreckError, T.ex_NoRoom_WreckError, DL.o_isE T.xi_WreckError T.is_WreckError_InvalidFile, DL.o_isE T.xi_InvalidMachine T.is_InvalidMachine_InvalidFile, DL.o_isE T.xi_InvalidDisk T.is_InvalidDisk_InvalidFile, DL.o_isE T.xi_InvalidSketch T.is_InvalidSketch_InvalidFile, DL.o_isE T.xi_NoSuchDeed T.is_NoSuchDeed_InvalidFile, DL.o_isX T.xi_CannotDo T.is_CannotDo_InvalidFile, DL.o_isE T.xi_InvalidForm T.is_InvalidForm_InvalidFile, DL.o_isE T.xi_InvalidFile T.is_InvalidFile_InvalidFile, DL.o_isE T.xi_NoRoom T.is_NoRoom_InvalidFile, DL.o_isE T.xi_WreckError T.is_WreckError_NoRoom, DL.o_isE T.xi_InvalidMachine T.is_InvalidMachine_NoRoom, DL.o_isE T.xi_InvalidDisk T.is_InvalidDisk_NoRoom, DL.o_isE T.xi_InvalidSketch T.is_InvalidSketch_NoRoom, DL.o_isE T.xi_NoSuchDeed T.is_NoSuchDeed_NoRoom, DL.o_isX T.xi_CannotDo T.is_CannotDo_NoRoom, DL.o_isE T.xi_InvalidForm T.is_InvalidForm_NoRoom, DL.o_isE T.xi_InvalidFile T.is_InvalidFile_NoRoom, DL.o_isE T.xi_NoRoom T.is_NoRoom_NoRoom, DL.o_isE T.xi_WreckError T.is_WreckError_InvalidForm, DL.o_isE T.xi_InvalidMachine T.is_InvalidMachine_InvalidForm, DL.o_isE T.xi_InvalidDisk T.is_InvalidDisk_InvalidForm, DL.o_isE T.xi_InvalidSketch T.is_InvalidSketch_InvalidForm, DL.o_isE T.xi_NoSuchDeed T.is_NoSuchDeed_InvalidForm, DL.o_isX T.xi_CannotDo T.is_CannotDo_InvalidForm, DL.o_isE T.xi_InvalidForm T.is_InvalidForm_InvalidForm, DL.o_isE T.xi_InvalidFile T.is_InvalidFile_InvalidForm, DL.o_isE T.xi_NoRoom T.is_NoRoom_InvalidForm, qc, ↓DL.qtd, DL.qtu, ↓DL.qfd, DL.qfu,  ats]
      refine ⟨by decide, fun w1 w2 _ => ⟨by decide, by omega, hR _ _ _ rfl ⟨@fmod_nn w2 _ hsz, @fmod_lt w2 _ hsz⟩ rfl⟩⟩
    rintro xs s' hl hp rfl
    have hx : dk (SM v).sz xs := ⟨hl, hp⟩
    simp -dsimp only [↓DL.qd, DL.qu, DL.qs, ↓DL.s_seq, mkD, D.key, dgetM, hide, hideS, Slot.fr?, Slot.m?, Slot.put, D.seqs, D.tyN, startD, List.replicate, Nat.reduceSub, Nat.reduceAdd, Nat.reduceLeDiff, wipeD, unw, freeAt, Slot.free, Nat.reduceEqDiff, id_eq, eq_self, c_StripeForm_init, c__law_cell, c__law_is_right, c__law_mix, c__law_names, c__law_stripe, c_after, c_can_do, c_stripe_machine, T.ex_WreckError_WreckError, T.ex_InvalidMachine_WreckError, T.ex_InvalidDisk_WreckError, T.ex_InvalidSketch_WreckError, T.ex_NoSuchDeed_WreckError, T.ex_CannotDo_WreckError, T.ex_InvalidForm_WreckError, T.ex_InvalidFile_WreckError, T.ex_NoRoom_WreckError, DL.o_isE T.xi_WreckError T.is_WreckError_InvalidFile, DL.o_isE T.xi_InvalidMachine T.is_InvalidMachine_InvalidFile, DL.o_isE T.xi_InvalidDisk T.is_InvalidDisk_InvalidFile, DL.o_isE T.xi_InvalidSketch T.is_InvalidSketch_InvalidFile, DL.o_isE T.xi_NoSuchDeed T.is_NoSuchDeed_InvalidFile, DL.o_isX T.xi_CannotDo T.is_CannotDo_InvalidFile, DL.o_isE T.xi_InvalidForm T.is_InvalidForm_InvalidFile, DL.o_isE T.xi_InvalidFile T.is_InvalidFile_InvalidFile, DL.o_isE T.xi_NoRoom T.is_NoRoom_InvalidFile, DL.o_isE T.xi_WreckError T.is_WreckError_NoRoom, DL.o_isE T.xi_InvalidMachine T.is_InvalidMachine_NoRoom, DL.o_isE T.xi_InvalidDisk T.is_InvalidDisk_NoRoom, DL.o_isE T.xi_InvalidSketch T.is_InvalidSketch_NoRoom, DL.o_isE T.xi_NoSuchDeed T.is_NoSuchDeed_NoRoom, DL.o_isX T.xi_CannotDo T.is_CannotDo_NoRoom, DL.o_isE T.xi_InvalidForm T.is_InvalidForm_NoRoom, DL.o_isE T.xi_InvalidFile T.is_InvalidFile_NoRoom, DL.o_isE T.xi_NoRoom T.is_NoRoom_NoRoom, DL.o_isE T.xi_WreckError T.is_WreckError_InvalidForm, DL.o_isE T.xi_InvalidMachine T.is_InvalidMachine_InvalidForm, DL.o_isE T.xi_InvalidDisk T.is_InvalidDisk_InvalidForm, DL.o_isE T.xi_InvalidSketch T.is_InvalidSketch_InvalidForm, DL.o_isE T.xi_NoSuchDeed T.is_NoSuchDeed_InvalidForm, DL.o_isX T.xi_CannotDo T.is_CannotDo_InvalidForm, DL.o_isE T.xi_InvalidForm T.is_InvalidForm_InvalidForm, DL.o_isE T.xi_InvalidFile T.is_InvalidFile_InvalidForm, DL.o_isE T.xi_NoRoom T.is_NoRoom_InvalidForm, qc, ↓DL.qtd, DL.qtu, ↓DL.qfd, DL.qfu,  hg, List.length_map, gset_free z2]
    rw [Int.toNat_natCast]
    refine ⟨by omega, by omega, for_rng (fun _ s => ∃ (g : DL.M) (c d : DL.Slot), s = [.v (.fz (.scr ns)), .v (.fz (.int (v : Int))), .un, .v (.fz (machD C_Machine (SM v))), .v g, ce, .v (.fz (.int (i : Int))), .un, .v (.fz (formD C_StripeForm v)), .v (.fz (.tup (xs.map .int))), c, .un, .un, d, .un, .un] ∧ g.frz = .lst ((SM v).ds.map nmD) ∧ c.pinned = false ∧ d.pinned = false) ⟨g, c, d, rfl, hg, z3, z4⟩ ?_ ?_⟩
    · clear hg z3 z4
      rintro n s hn ⟨g, c, d, rfl, hg, z3, z4⟩ N B R hN - -
      rw [Int.zero_add]
      have hdd := dd_get hn
      have hdm := List.mem_of_getElem? hdd
      have atn : atI ((SM v).ds.map nmD) (n : Int) = some (.str (dd (SM v).ds n).nm) := DL.atI_nat (by rw [List.getElem?_map, hdd]; rfl)
      simp -dsimp only [↓DL.qd, DL.qu, DL.qs, ↓DL.s_seq, mkD, D.key, dgetM, hide, hideS, Slot.fr?, Slot.m?, Slot.put, D.seqs, D.tyN, startD, List.replicate, Nat.reduceSub, Nat.reduceAdd, Nat.reduceLeDiff, wipeD, unw, freeAt, Slot.free, Nat.reduceEqDiff, id_eq, eq_self, c_StripeForm_init, c__law_cell, c__law_is_right, c__law_mix, c__law_names, c__law_stripe, c_after, c_can_do, c_stripe_machine, T.ex_WreckError_WreckError, T.ex_InvalidMachine_WreckError, T.ex_InvalidDisk_WreckError, T.ex_InvalidSketch_WreckError, T.ex_NoSuchDeed_WreckError, T.ex_CannotDo_WreckError, T.ex_InvalidForm_WreckError, T.ex_InvalidFile_WreckError, T.ex_NoRoom_WreckError, DL.o_isE T.xi_WreckError T.is_WreckError_InvalidFile, DL.o_isE T.xi_InvalidMachine T.is_InvalidMachine_InvalidFile, DL.o_isE T.xi_InvalidDisk T.is_InvalidDisk_InvalidFile, DL.o_isE T.xi_InvalidSketch T.is_InvalidSketch_InvalidFile, DL.o_isE T.xi_NoSuchDeed T.is_NoSuchDeed_InvalidFile, DL.o_isX T.xi_CannotDo T.is_CannotDo_InvalidFile, DL.o_isE T.xi_InvalidForm T.is_InvalidForm_InvalidFile, DL.o_isE T.xi_InvalidFile T.is_InvalidFile_InvalidFile, DL.o_isE T.xi_NoRoom T.is_NoRoom_InvalidFile, DL.o_isE T.xi_WreckError T.is_WreckError_NoRoom, DL.o_isE T.xi_InvalidMachine T.is_InvalidMachine_NoRoom, DL.o_isE T.xi_InvalidDisk T.is_InvalidDisk_NoRoom, DL.o_isE T.xi_InvalidSketch T.is_InvalidSketch_NoRoom, DL.o_isE T.xi_NoSuchDeed T.is_NoSuchDeed_NoRoom, DL.o_isX T.xi_CannotDo T.is_CannotDo_NoRoom, DL.o_isE T.xi_InvalidForm T.is_InvalidForm_NoRoom, DL.o_isE T.xi_InvalidFile T.is_InvalidFile_NoRoom, DL.o_isE T.xi_NoRoom T.is_NoRoom_NoRoom, DL.o_isE T.xi_WreckError T.is_WreckError_InvalidForm, DL.o_isE T.xi_InvalidMachine T.is_InvalidMachine_InvalidForm, DL.o_isE T.xi_InvalidDisk T.is_InvalidDisk_InvalidForm, DL.o_isE T.xi_InvalidSketch T.is_InvalidSketch_InvalidForm, DL.o_isE T.xi_NoSuchDeed T.is_NoSuchDeed_InvalidForm, DL.o_isX T.xi_CannotDo T.is_CannotDo_InvalidForm, DL.o_isE T.xi_InvalidForm T.is_InvalidForm_InvalidForm, DL.o_isE T.xi_InvalidFile T.is_InvalidFile_InvalidForm, DL.o_isE T.xi_NoRoom T.is_NoRoom_InvalidForm, qc, ↓DL.qtd, DL.qtu, ↓DL.qfd, DL.qfu,  hg, atn, gset_free z3, gset_free z4]
      refine ⟨v, xs, dd (SM v).ds n, rfl, v2, v5, rfl, hx, hdm, rfl, ?_⟩
      refine ⟨SM v, xs, rfl, rfl, W, by omega, fun c => absurd hx c, fun _ c => absurd c (by omega), fun n' _ en hn' => ?_⟩
      obtain rfl : n' = n := by omega
      cases hcan : can (dd (SM v).ds n') xs with
      | false =>
        rw [if_neg (by decide)]
        simp -dsimp only [↓DL.qd, DL.qu, DL.qs, ↓DL.s_seq, mkD, D.key, dgetM, hide, hideS, Slot.fr?, Slot.m?, Slot.put, D.seqs, D.tyN, startD, List.replicate, Nat.reduceSub, Nat.reduceAdd, Nat.reduceLeDiff, wipeD, unw, freeAt, Slot.free, Nat.reduceEqDiff, id_eq, eq_self, c_StripeForm_init, c__law_cell, c__law_is_right, c__law_mix, c__law_names, c__law_stripe, c_after, c_can_do, c_stripe_machine, T.ex_WreckError_WreckError, T.ex_InvalidMachine_WreckError, T.ex_InvalidDisk_WreckError, T.ex_InvalidSketch_WreckError, T.ex_NoSuchDeed_WreckError, T.ex_CannotDo_WreckError, T.ex_InvalidForm_WreckError, T.ex_InvalidFile_WreckError, T.ex_NoRoom_WreckError, DL.o_isE T.xi_WreckError T.is_WreckError_InvalidFile, DL.o_isE T.xi_InvalidMachine T.is_InvalidMachine_InvalidFile, DL.o_isE T.xi_InvalidDisk T.is_InvalidDisk_InvalidFile, DL.o_isE T.xi_InvalidSketch T.is_InvalidSketch_InvalidFile, DL.o_isE T.xi_NoSuchDeed T.is_NoSuchDeed_InvalidFile, DL.o_isX T.xi_CannotDo T.is_CannotDo_InvalidFile, DL.o_isE T.xi_InvalidForm T.is_InvalidForm_InvalidFile, DL.o_isE T.xi_InvalidFile T.is_InvalidFile_InvalidFile, DL.o_isE T.xi_NoRoom T.is_NoRoom_InvalidFile, DL.o_isE T.xi_WreckError T.is_WreckError_NoRoom, DL.o_isE T.xi_InvalidMachine T.is_InvalidMachine_NoRoom, DL.o_isE T.xi_InvalidDisk T.is_InvalidDisk_NoRoom, DL.o_isE T.xi_InvalidSketch T.is_InvalidSketch_NoRoom, DL.o_isE T.xi_NoSuchDeed T.is_NoSuchDeed_NoRoom, DL.o_isX T.xi_CannotDo T.is_CannotDo_NoRoom, DL.o_isE T.xi_InvalidForm T.is_InvalidForm_NoRoom, DL.o_isE T.xi_InvalidFile T.is_InvalidFile_NoRoom, DL.o_isE T.xi_NoRoom T.is_NoRoom_NoRoom, DL.o_isE T.xi_WreckError T.is_WreckError_InvalidForm, DL.o_isE T.xi_InvalidMachine T.is_InvalidMachine_InvalidForm, DL.o_isE T.xi_InvalidDisk T.is_InvalidDisk_InvalidForm, DL.o_isE T.xi_InvalidSketch T.is_InvalidSketch_InvalidForm, DL.o_isE T.xi_NoSuchDeed T.is_NoSuchDeed_InvalidForm, DL.o_isX T.xi_CannotDo T.is_CannotDo_InvalidForm, DL.o_isE T.xi_InvalidForm T.is_InvalidForm_InvalidForm, DL.o_isE T.xi_InvalidFile T.is_InvalidFile_InvalidForm, DL.o_isE T.xi_NoRoom T.is_NoRoom_InvalidForm, qc, ↓DL.qtd, DL.qtu, ↓DL.qfd, DL.qfu,  optI]
        exact hN _ ⟨_, _, _, rfl, hg, rfl, rfl⟩
      | true =>
        rw [if_pos rfl]
        simp -dsimp only [↓DL.qd, DL.qu, DL.qs, ↓DL.s_seq, mkD, D.key, dgetM, hide, hideS, Slot.fr?, Slot.m?, Slot.put, D.seqs, D.tyN, startD, List.replicate, Nat.reduceSub, Nat.reduceAdd, Nat.reduceLeDiff, wipeD, unw, freeAt, Slot.free, Nat.reduceEqDiff, id_eq, eq_self, c_StripeForm_init, c__law_cell, c__law_is_right, c__law_mix, c__law_names, c__law_stripe, c_after, c_can_do, c_stripe_machine, T.ex_WreckError_WreckError, T.ex_InvalidMachine_WreckError, T.ex_InvalidDisk_WreckError, T.ex_InvalidSketch_WreckError, T.ex_NoSuchDeed_WreckError, T.ex_CannotDo_WreckError, T.ex_InvalidForm_WreckError, T.ex_InvalidFile_WreckError, T.ex_NoRoom_WreckError, DL.o_isE T.xi_WreckError T.is_WreckError_InvalidFile, DL.o_isE T.xi_InvalidMachine T.is_InvalidMachine_InvalidFile, DL.o_isE T.xi_InvalidDisk T.is_InvalidDisk_InvalidFile, DL.o_isE T.xi_InvalidSketch T.is_InvalidSketch_InvalidFile, DL.o_isE T.xi_NoSuchDeed T.is_NoSuchDeed_InvalidFile, DL.o_isX T.xi_CannotDo T.is_CannotDo_InvalidFile, DL.o_isE T.xi_InvalidForm T.is_InvalidForm_InvalidFile, DL.o_isE T.xi_InvalidFile T.is_InvalidFile_InvalidFile, DL.o_isE T.xi_NoRoom T.is_NoRoom_InvalidFile, DL.o_isE T.xi_WreckError T.is_WreckError_NoRoom, DL.o_isE T.xi_InvalidMachine T.is_InvalidMachine_NoRoom, DL.o_isE T.xi_InvalidDisk T.is_InvalidDisk_NoRoom, DL.o_isE T.xi_InvalidSketch T.is_InvalidSketch_NoRoom, DL.o_isE T.xi_NoSuchDeed T.is_NoSuchDeed_NoRoom, DL.o_isX T.xi_CannotDo T.is_CannotDo_NoRoom, DL.o_isE T.xi_InvalidForm T.is_InvalidForm_NoRoom, DL.o_isE T.xi_InvalidFile T.is_InvalidFile_NoRoom, DL.o_isE T.xi_NoRoom T.is_NoRoom_NoRoom, DL.o_isE T.xi_WreckError T.is_WreckError_InvalidForm, DL.o_isE T.xi_InvalidMachine T.is_InvalidMachine_InvalidForm, DL.o_isE T.xi_InvalidDisk T.is_InvalidDisk_InvalidForm, DL.o_isE T.xi_InvalidSketch T.is_InvalidSketch_InvalidForm, DL.o_isE T.xi_NoSuchDeed T.is_NoSuchDeed_InvalidForm, DL.o_isX T.xi_CannotDo T.is_CannotDo_InvalidForm, DL.o_isE T.xi_InvalidForm T.is_InvalidForm_InvalidForm, DL.o_isE T.xi_InvalidFile T.is_InvalidFile_InvalidForm, DL.o_isE T.xi_NoRoom T.is_NoRoom_InvalidForm, qc, ↓DL.qtd, DL.qtu, ↓DL.qfd, DL.qfu,  optI, tupI]
        refine ⟨SM v, xs, rfl, rfl, W, by omega, fun c => absurd hx c, fun _ c => absurd c (by omega), fun n2 _ en hn2 => ?_⟩
        obtain rfl : n2 = n' := by omega
        refine ⟨fun _ => ?_, fun c => by rw [hcan] at c; cases c⟩
        refine opz_of (neSame (n := 1) okD.tupI (by decide)) ?_
        simp -dsimp only [↓DL.qd, DL.qu, DL.qs, ↓DL.s_seq, mkD, D.key, dgetM, hide, hideS, Slot.fr?, Slot.m?, Slot.put, D.seqs, D.tyN, startD, List.replicate, Nat.reduceSub, Nat.reduceAdd, Nat.reduceLeDiff, wipeD, unw, freeAt, Slot.free, Nat.reduceEqDiff, id_eq, eq_self, c_StripeForm_init, c__law_cell, c__law_is_right, c__law_mix, c__law_names, c__law_stripe, c_after, c_can_do, c_stripe_machine, T.ex_WreckError_WreckError, T.ex_InvalidMachine_WreckError, T.ex_InvalidDisk_WreckError, T.ex_InvalidSketch_WreckError, T.ex_NoSuchDeed_WreckError, T.ex_CannotDo_WreckError, T.ex_InvalidForm_WreckError, T.ex_InvalidFile_WreckError, T.ex_NoRoom_WreckError, DL.o_isE T.xi_WreckError T.is_WreckError_InvalidFile, DL.o_isE T.xi_InvalidMachine T.is_InvalidMachine_InvalidFile, DL.o_isE T.xi_InvalidDisk T.is_InvalidDisk_InvalidFile, DL.o_isE T.xi_InvalidSketch T.is_InvalidSketch_InvalidFile, DL.o_isE T.xi_NoSuchDeed T.is_NoSuchDeed_InvalidFile, DL.o_isX T.xi_CannotDo T.is_CannotDo_InvalidFile, DL.o_isE T.xi_InvalidForm T.is_InvalidForm_InvalidFile, DL.o_isE T.xi_InvalidFile T.is_InvalidFile_InvalidFile, DL.o_isE T.xi_NoRoom T.is_NoRoom_InvalidFile, DL.o_isE T.xi_WreckError T.is_WreckError_NoRoom, DL.o_isE T.xi_InvalidMachine T.is_InvalidMachine_NoRoom, DL.o_isE T.xi_InvalidDisk T.is_InvalidDisk_NoRoom, DL.o_isE T.xi_InvalidSketch T.is_InvalidSketch_NoRoom, DL.o_isE T.xi_NoSuchDeed T.is_NoSuchDeed_NoRoom, DL.o_isX T.xi_CannotDo T.is_CannotDo_NoRoom, DL.o_isE T.xi_InvalidForm T.is_InvalidForm_NoRoom, DL.o_isE T.xi_InvalidFile T.is_InvalidFile_NoRoom, DL.o_isE T.xi_NoRoom T.is_NoRoom_NoRoom, DL.o_isE T.xi_WreckError T.is_WreckError_InvalidForm, DL.o_isE T.xi_InvalidMachine T.is_InvalidMachine_InvalidForm, DL.o_isE T.xi_InvalidDisk T.is_InvalidDisk_InvalidForm, DL.o_isE T.xi_InvalidSketch T.is_InvalidSketch_InvalidForm, DL.o_isE T.xi_NoSuchDeed T.is_NoSuchDeed_InvalidForm, DL.o_isX T.xi_CannotDo T.is_CannotDo_InvalidForm, DL.o_isE T.xi_InvalidForm T.is_InvalidForm_InvalidForm, DL.o_isE T.xi_InvalidFile T.is_InvalidFile_InvalidForm, DL.o_isE T.xi_NoRoom T.is_NoRoom_InvalidForm, qc, ↓DL.qtd, DL.qtu, ↓DL.qfd, DL.qfu]
        exact hN _ ⟨_, _, _, rfl, hg, rfl, rfl⟩
    rintro s ⟨g, c, d, rfl, hg, z3, z4⟩
    simp -dsimp only [↓DL.qd, DL.qu, DL.qs, ↓DL.s_seq, mkD, D.key, dgetM, hide, hideS, Slot.fr?, Slot.m?, Slot.put, D.seqs, D.tyN, startD, List.replicate, Nat.reduceSub, Nat.reduceAdd, Nat.reduceLeDiff, wipeD, unw, freeAt, Slot.free, Nat.reduceEqDiff, id_eq, eq_self, c_StripeForm_init, c__law_cell, c__law_is_right, c__law_mix, c__law_names, c__law_stripe, c_after, c_can_do, c_stripe_machine, T.ex_WreckError_WreckError, T.ex_InvalidMachine_WreckError, T.ex_InvalidDisk_WreckError, T.ex_InvalidSketch_WreckError, T.ex_NoSuchDeed_WreckError, T.ex_CannotDo_WreckError, T.ex_InvalidForm_WreckError, T.ex_InvalidFile_WreckError, T.ex_NoRoom_WreckError, DL.o_isE T.xi_WreckError T.is_WreckError_InvalidFile, DL.o_isE T.xi_InvalidMachine T.is_InvalidMachine_InvalidFile, DL.o_isE T.xi_InvalidDisk T.is_InvalidDisk_InvalidFile, DL.o_isE T.xi_InvalidSketch T.is_InvalidSketch_InvalidFile, DL.o_isE T.xi_NoSuchDeed T.is_NoSuchDeed_InvalidFile, DL.o_isX T.xi_CannotDo T.is_CannotDo_InvalidFile, DL.o_isE T.xi_InvalidForm T.is_InvalidForm_InvalidFile, DL.o_isE T.xi_InvalidFile T.is_InvalidFile_InvalidFile, DL.o_isE T.xi_NoRoom T.is_NoRoom_InvalidFile, DL.o_isE T.xi_WreckError T.is_WreckError_NoRoom, DL.o_isE T.xi_InvalidMachine T.is_InvalidMachine_NoRoom, DL.o_isE T.xi_InvalidDisk T.is_InvalidDisk_NoRoom, DL.o_isE T.xi_InvalidSketch T.is_InvalidSketch_NoRoom, DL.o_isE T.xi_NoSuchDeed T.is_NoSuchDeed_NoRoom, DL.o_isX T.xi_CannotDo T.is_CannotDo_NoRoom, DL.o_isE T.xi_InvalidForm T.is_InvalidForm_NoRoom, DL.o_isE T.xi_InvalidFile T.is_InvalidFile_NoRoom, DL.o_isE T.xi_NoRoom T.is_NoRoom_NoRoom, DL.o_isE T.xi_WreckError T.is_WreckError_InvalidForm, DL.o_isE T.xi_InvalidMachine T.is_InvalidMachine_InvalidForm, DL.o_isE T.xi_InvalidDisk T.is_InvalidDisk_InvalidForm, DL.o_isE T.xi_InvalidSketch T.is_InvalidSketch_InvalidForm, DL.o_isE T.xi_NoSuchDeed T.is_NoSuchDeed_InvalidForm, DL.o_isX T.xi_CannotDo T.is_CannotDo_InvalidForm, DL.o_isE T.xi_InvalidForm T.is_InvalidForm_InvalidForm, DL.o_isE T.xi_InvalidFile T.is_InvalidFile_InvalidForm, DL.o_isE T.xi_NoRoom T.is_NoRoom_InvalidForm, qc, ↓DL.qtd, DL.qtu, ↓DL.qfd, DL.qfu]
    have f0 := @fmod_nn (i : Int) (v : Int) (by omega)
    have f1 := @fmod_lt (i : Int) (v : Int) (by omega)
    obtain ⟨f, hf⟩ : ∃ f : Nat, (i : Int).fmod (v : Int) = (f : Int) := ⟨_, (Int.toNat_of_nonneg f0).symm⟩
    exact ⟨by omega, v, f, xs, rfl, rfl, v2, v5, rfl, hx, hf, by omega, hN _ ⟨g, ce, _, _, c, d, rfl, hg, rfl, rfl, z3, z4⟩⟩
  rintro s ⟨g, ce, a, b, c, d, rfl, hg, z1, z2, z3, z4⟩
  simp -dsimp only [↓DL.qd, DL.qu, DL.qs, ↓DL.s_seq, mkD, D.key, dgetM, hide, hideS, Slot.fr?, Slot.m?, Slot.put, D.seqs, D.tyN, startD, List.replicate, Nat.reduceSub, Nat.reduceAdd, Nat.reduceLeDiff, wipeD, unw, freeAt, Slot.free, Nat.reduceEqDiff, id_eq, eq_self, c_StripeForm_init, c__law_cell, c__law_is_right, c__law_mix, c__law_names, c__law_stripe, c_after, c_can_do, c_stripe_machine, T.ex_WreckError_WreckError, T.ex_InvalidMachine_WreckError, T.ex_InvalidDisk_WreckError, T.ex_InvalidSketch_WreckError, T.ex_NoSuchDeed_WreckError, T.ex_CannotDo_WreckError, T.ex_InvalidForm_WreckError, T.ex_InvalidFile_WreckError, T.ex_NoRoom_WreckError, DL.o_isE T.xi_WreckError T.is_WreckError_InvalidFile, DL.o_isE T.xi_InvalidMachine T.is_InvalidMachine_InvalidFile, DL.o_isE T.xi_InvalidDisk T.is_InvalidDisk_InvalidFile, DL.o_isE T.xi_InvalidSketch T.is_InvalidSketch_InvalidFile, DL.o_isE T.xi_NoSuchDeed T.is_NoSuchDeed_InvalidFile, DL.o_isX T.xi_CannotDo T.is_CannotDo_InvalidFile, DL.o_isE T.xi_InvalidForm T.is_InvalidForm_InvalidFile, DL.o_isE T.xi_InvalidFile T.is_InvalidFile_InvalidFile, DL.o_isE T.xi_NoRoom T.is_NoRoom_InvalidFile, DL.o_isE T.xi_WreckError T.is_WreckError_NoRoom, DL.o_isE T.xi_InvalidMachine T.is_InvalidMachine_NoRoom, DL.o_isE T.xi_InvalidDisk T.is_InvalidDisk_NoRoom, DL.o_isE T.xi_InvalidSketch T.is_InvalidSketch_NoRoom, DL.o_isE T.xi_NoSuchDeed T.is_NoSuchDeed_NoRoom, DL.o_isX T.xi_CannotDo T.is_CannotDo_NoRoom, DL.o_isE T.xi_InvalidForm T.is_InvalidForm_NoRoom, DL.o_isE T.xi_InvalidFile T.is_InvalidFile_NoRoom, DL.o_isE T.xi_NoRoom T.is_NoRoom_NoRoom, DL.o_isE T.xi_WreckError T.is_WreckError_InvalidForm, DL.o_isE T.xi_InvalidMachine T.is_InvalidMachine_InvalidForm, DL.o_isE T.xi_InvalidDisk T.is_InvalidDisk_InvalidForm, DL.o_isE T.xi_InvalidSketch T.is_InvalidSketch_InvalidForm, DL.o_isE T.xi_NoSuchDeed T.is_NoSuchDeed_InvalidForm, DL.o_isX T.xi_CannotDo T.is_CannotDo_InvalidForm, DL.o_isE T.xi_InvalidForm T.is_InvalidForm_InvalidForm, DL.o_isE T.xi_InvalidFile T.is_InvalidFile_InvalidForm, DL.o_isE T.xi_NoRoom T.is_NoRoom_InvalidForm, qc, ↓DL.qtd, DL.qtu, ↓DL.qfd, DL.qfu]
  refine ⟨by decide, by decide, fun u3 => ⟨by decide, ?_⟩⟩
  obtain ⟨n1, e1, l1⟩ : ∃ n1 : Nat, u3.fmod 21 = (n1 : Int) ∧ n1 ≤ 20 := by
    have h1 := @fmod_nn u3 21 (by decide)
    have h2 := @fmod_lt u3 21 (by decide)
    exact ⟨(u3.fmod 21).toNat, by omega, by omega⟩
  rw [e1, Int.toNat_natCast]
  have d00 : dk (SM v).sz [0, 0, 0, 0] := by rcases v25 ⟨v2, v5⟩ with rfl | rfl | rfl | rfl <;> decide
  have p00 : par v [0, 0, 0, 0] = true := by rcases v25 ⟨v2, v5⟩ with rfl | rfl | rfl | rfl <;> decide
  refine ⟨by omega, by omega, for_rng (fun _ s => ∃ (g : DL.M) (ce a b c d e f : DL.Slot) (x : List Int), s = [.v (.fz (.scr ns)), .v (.fz (.int (v : Int))), .un, .v (.fz (machD C_Machine (SM v))), .v g, ce, a, .v (.fz (tupI x)), .v (.fz (formD C_StripeForm v)), b, c, e, f, d, .un, .un] ∧ g.frz = .lst ((SM v).ds.map nmD) ∧ dk (SM v).sz x ∧ par v x = true ∧ a.pinned = false ∧ c.pinned = false ∧ d.pinned = false ∧ e.pinned = false ∧ f.pinned = false) ⟨g, ce, a, b, c, d, .un, .un, _, rfl, hg, d00, p00, z1, z3, z4, rfl, rfl⟩ ?_ ?_⟩
  · clear hg z1 z2 z3 z4
    rintro i s hi ⟨g, ce, a, b, c, d, e, f, x, rfl, hg, hx, hpx, z1, z3, z4, z5, z6⟩ N B R hN - -
    rw [Int.zero_add]
    simp -dsimp only [↓DL.qd, DL.qu, DL.qs, ↓DL.s_seq, mkD, D.key, dgetM, hide, hideS, Slot.fr?, Slot.m?, Slot.put, D.seqs, D.tyN, startD, List.replicate, Nat.reduceSub, Nat.reduceAdd, Nat.reduceLeDiff, wipeD, unw, freeAt, Slot.free, Nat.reduceEqDiff, id_eq, eq_self, c_StripeForm_init, c__law_cell, c__law_is_right, c__law_mix, c__law_names, c__law_stripe, c_after, c_can_do, c_stripe_machine, T.ex_WreckError_WreckError, T.ex_InvalidMachine_WreckError, T.ex_InvalidDisk_WreckError, T.ex_InvalidSketch_WreckError, T.ex_NoSuchDeed_WreckError, T.ex_CannotDo_WreckError, T.ex_InvalidForm_WreckError, T.ex_InvalidFile_WreckError, T.ex_NoRoom_WreckError, DL.o_isE T.xi_WreckError T.is_WreckError_InvalidFile, DL.o_isE T.xi_InvalidMachine T.is_InvalidMachine_InvalidFile, DL.o_isE T.xi_InvalidDisk T.is_InvalidDisk_InvalidFile, DL.o_isE T.xi_InvalidSketch T.is_InvalidSketch_InvalidFile, DL.o_isE T.xi_NoSuchDeed T.is_NoSuchDeed_InvalidFile, DL.o_isX T.xi_CannotDo T.is_CannotDo_InvalidFile, DL.o_isE T.xi_InvalidForm T.is_InvalidForm_InvalidFile, DL.o_isE T.xi_InvalidFile T.is_InvalidFile_InvalidFile, DL.o_isE T.xi_NoRoom T.is_NoRoom_InvalidFile, DL.o_isE T.xi_WreckError T.is_WreckError_NoRoom, DL.o_isE T.xi_InvalidMachine T.is_InvalidMachine_NoRoom, DL.o_isE T.xi_InvalidDisk T.is_InvalidDisk_NoRoom, DL.o_isE T.xi_InvalidSketch T.is_InvalidSketch_NoRoom, DL.o_isE T.xi_NoSuchDeed T.is_NoSuchDeed_NoRoom, DL.o_isX T.xi_CannotDo T.is_CannotDo_NoRoom, DL.o_isE T.xi_InvalidForm T.is_InvalidForm_NoRoom, DL.o_isE T.xi_InvalidFile T.is_InvalidFile_NoRoom, DL.o_isE T.xi_NoRoom T.is_NoRoom_NoRoom, DL.o_isE T.xi_WreckError T.is_WreckError_InvalidForm, DL.o_isE T.xi_InvalidMachine T.is_InvalidMachine_InvalidForm, DL.o_isE T.xi_InvalidDisk T.is_InvalidDisk_InvalidForm, DL.o_isE T.xi_InvalidSketch T.is_InvalidSketch_InvalidForm, DL.o_isE T.xi_NoSuchDeed T.is_NoSuchDeed_InvalidForm, DL.o_isX T.xi_CannotDo T.is_CannotDo_InvalidForm, DL.o_isE T.xi_InvalidForm T.is_InvalidForm_InvalidForm, DL.o_isE T.xi_InvalidFile T.is_InvalidFile_InvalidForm, DL.o_isE T.xi_NoRoom T.is_NoRoom_InvalidForm, qc, ↓DL.qtd, DL.qtu, ↓DL.qfd, DL.qfu,  gset_free z1, gset_free z5, gset_free z6, hg, List.length_map]
    refine ⟨by omega, fun u4 u5 h5 => ?_⟩
    rw [Int.toNat_natCast]
    refine ⟨by decide, by omega, by omega, for_rng (fun n s => ∃ (g : DL.M) (c d : DL.Slot), s = [.v (.fz (.scr ns)), .v (.fz (.int (v : Int))), .un, .v (.fz (machD C_Machine (SM v))), .v g, ce, .v (.fz (.int (i : Int))), .v (.fz (tupI x)), .v (.fz (formD C_StripeForm v)), b, c, .v (.fz (.int u5)), .v (.ml ((((SM v).ds.take n).filter fun d => can d x).map fun d => tupI (aft d x))), d, .un, .un] ∧ g.frz = .lst ((SM v).ds.map nmD) ∧ c.pinned = false ∧ d.pinned = false) ⟨g, c, d, rfl, hg, z3, z4⟩ ?_ ?_⟩
    · clear hg z3 z4
      rintro n s hn ⟨g, c, d, rfl, hg, z3, z4⟩ N B R hN - -
      rw [Int.zero_add]
      have hdd := dd_get hn
      have hdm := List.mem_of_getElem? hdd
      have atn : atI ((SM v).ds.map nmD) (n : Int) = some (.str (dd (SM v).ds n).nm) := DL.atI_nat (by rw [List.getElem?_map, hdd]; rfl)
      have hAl : (((SM v).ds.take n).filter fun d => can d x).length ≤ 100 := Nat.le_trans (List.length_filter_le _ _) (by rw [List.length_take]; omega)
      simp -dsimp only [↓DL.qd, DL.qu, DL.qs, ↓DL.s_seq, mkD, D.key, dgetM, hide, hideS, Slot.fr?, Slot.m?, Slot.put, D.seqs, D.tyN, startD, List.replicate, Nat.reduceSub, Nat.reduceAdd, Nat.reduceLeDiff, wipeD, unw, freeAt, Slot.free, Nat.reduceEqDiff, id_eq, eq_self, c_StripeForm_init, c__law_cell, c__law_is_right, c__law_mix, c__law_names, c__law_stripe, c_after, c_can_do, c_stripe_machine, T.ex_WreckError_WreckError, T.ex_InvalidMachine_WreckError, T.ex_InvalidDisk_WreckError, T.ex_InvalidSketch_WreckError, T.ex_NoSuchDeed_WreckError, T.ex_CannotDo_WreckError, T.ex_InvalidForm_WreckError, T.ex_InvalidFile_WreckError, T.ex_NoRoom_WreckError, DL.o_isE T.xi_WreckError T.is_WreckError_InvalidFile, DL.o_isE T.xi_InvalidMachine T.is_InvalidMachine_InvalidFile, DL.o_isE T.xi_InvalidDisk T.is_InvalidDisk_InvalidFile, DL.o_isE T.xi_InvalidSketch T.is_InvalidSketch_InvalidFile, DL.o_isE T.xi_NoSuchDeed T.is_NoSuchDeed_InvalidFile, DL.o_isX T.xi_CannotDo T.is_CannotDo_InvalidFile, DL.o_isE T.xi_InvalidForm T.is_InvalidForm_InvalidFile, DL.o_isE T.xi_InvalidFile T.is_InvalidFile_InvalidFile, DL.o_isE T.xi_NoRoom T.is_NoRoom_InvalidFile, DL.o_isE T.xi_WreckError T.is_WreckError_NoRoom, DL.o_isE T.xi_InvalidMachine T.is_InvalidMachine_NoRoom, DL.o_isE T.xi_InvalidDisk T.is_InvalidDisk_NoRoom, DL.o_isE T.xi_InvalidSketch T.is_InvalidSketch_NoRoom, DL.o_isE T.xi_NoSuchDeed T.is_NoSuchDeed_NoRoom, DL.o_isX T.xi_CannotDo T.is_CannotDo_NoRoom, DL.o_isE T.xi_InvalidForm T.is_InvalidForm_NoRoom, DL.o_isE T.xi_InvalidFile T.is_InvalidFile_NoRoom, DL.o_isE T.xi_NoRoom T.is_NoRoom_NoRoom, DL.o_isE T.xi_WreckError T.is_WreckError_InvalidForm, DL.o_isE T.xi_InvalidMachine T.is_InvalidMachine_InvalidForm, DL.o_isE T.xi_InvalidDisk T.is_InvalidDisk_InvalidForm, DL.o_isE T.xi_InvalidSketch T.is_InvalidSketch_InvalidForm, DL.o_isE T.xi_NoSuchDeed T.is_NoSuchDeed_InvalidForm, DL.o_isX T.xi_CannotDo T.is_CannotDo_InvalidForm, DL.o_isE T.xi_InvalidForm T.is_InvalidForm_InvalidForm, DL.o_isE T.xi_InvalidFile T.is_InvalidFile_InvalidForm, DL.o_isE T.xi_NoRoom T.is_NoRoom_InvalidForm, qc, ↓DL.qtd, DL.qtu, ↓DL.qfd, DL.qfu,  hg, atn, gset_free z3, gset_free z4, tupI]
      refine ⟨v, x, dd (SM v).ds n, rfl, v2, v5, rfl, hx, hdm, rfl, ?_⟩
      refine ⟨SM v, x, rfl, rfl, W, by omega, fun c => absurd hx c, fun _ c => absurd c (by omega), fun n' _ en hn' => ?_⟩
      obtain rfl : n' = n := by omega
      cases hcan : can (dd (SM v).ds n') x with
      | false =>
        rw [if_neg (by decide)]
        simp -dsimp only [↓DL.qd, DL.qu, DL.qs, ↓DL.s_seq, mkD, D.key, dgetM, hide, hideS, Slot.fr?, Slot.m?, Slot.put, D.seqs, D.tyN, startD, List.replicate, Nat.reduceSub, Nat.reduceAdd, Nat.reduceLeDiff, wipeD, unw, freeAt, Slot.free, Nat.reduceEqDiff, id_eq, eq_self, c_StripeForm_init, c__law_cell, c__law_is_right, c__law_mix, c__law_names, c__law_stripe, c_after, c_can_do, c_stripe_machine, T.ex_WreckError_WreckError, T.ex_InvalidMachine_WreckError, T.ex_InvalidDisk_WreckError, T.ex_InvalidSketch_WreckError, T.ex_NoSuchDeed_WreckError, T.ex_CannotDo_WreckError, T.ex_InvalidForm_WreckError, T.ex_InvalidFile_WreckError, T.ex_NoRoom_WreckError, DL.o_isE T.xi_WreckError T.is_WreckError_InvalidFile, DL.o_isE T.xi_InvalidMachine T.is_InvalidMachine_InvalidFile, DL.o_isE T.xi_InvalidDisk T.is_InvalidDisk_InvalidFile, DL.o_isE T.xi_InvalidSketch T.is_InvalidSketch_InvalidFile, DL.o_isE T.xi_NoSuchDeed T.is_NoSuchDeed_InvalidFile, DL.o_isX T.xi_CannotDo T.is_CannotDo_InvalidFile, DL.o_isE T.xi_InvalidForm T.is_InvalidForm_InvalidFile, DL.o_isE T.xi_InvalidFile T.is_InvalidFile_InvalidFile, DL.o_isE T.xi_NoRoom T.is_NoRoom_InvalidFile, DL.o_isE T.xi_WreckError T.is_WreckError_NoRoom, DL.o_isE T.xi_InvalidMachine T.is_InvalidMachine_NoRoom, DL.o_isE T.xi_InvalidDisk T.is_InvalidDisk_NoRoom, DL.o_isE T.xi_InvalidSketch T.is_InvalidSketch_NoRoom, DL.o_isE T.xi_NoSuchDeed T.is_NoSuchDeed_NoRoom, DL.o_isX T.xi_CannotDo T.is_CannotDo_NoRoom, DL.o_isE T.xi_InvalidForm T.is_InvalidForm_NoRoom, DL.o_isE T.xi_InvalidFile T.is_InvalidFile_NoRoom, DL.o_isE T.xi_NoRoom T.is_NoRoom_NoRoom, DL.o_isE T.xi_WreckError T.is_WreckError_InvalidForm, DL.o_isE T.xi_InvalidMachine T.is_InvalidMachine_InvalidForm, DL.o_isE T.xi_InvalidDisk T.is_InvalidDisk_InvalidForm, DL.o_isE T.xi_InvalidSketch T.is_InvalidSketch_InvalidForm, DL.o_isE T.xi_NoSuchDeed T.is_NoSuchDeed_InvalidForm, DL.o_isX T.xi_CannotDo T.is_CannotDo_InvalidForm, DL.o_isE T.xi_InvalidForm T.is_InvalidForm_InvalidForm, DL.o_isE T.xi_InvalidFile T.is_InvalidFile_InvalidForm, DL.o_isE T.xi_NoRoom T.is_NoRoom_InvalidForm, qc, ↓DL.qtd, DL.qtu, ↓DL.qfd, DL.qfu,  optI]
        refine hN _ ⟨g, .v (.fz (.int (n' : Int))), .v (.fz .non), ?_, hg, rfl, rfl⟩
        rw [take_filter hdd, hcan]
        simp [tupI]
      | true =>
        rw [if_pos rfl]
        simp -dsimp only [↓DL.qd, DL.qu, DL.qs, ↓DL.s_seq, mkD, D.key, dgetM, hide, hideS, Slot.fr?, Slot.m?, Slot.put, D.seqs, D.tyN, startD, List.replicate, Nat.reduceSub, Nat.reduceAdd, Nat.reduceLeDiff, wipeD, unw, freeAt, Slot.free, Nat.reduceEqDiff, id_eq, eq_self, c_StripeForm_init, c__law_cell, c__law_is_right, c__law_mix, c__law_names, c__law_stripe, c_after, c_can_do, c_stripe_machine, T.ex_WreckError_WreckError, T.ex_InvalidMachine_WreckError, T.ex_InvalidDisk_WreckError, T.ex_InvalidSketch_WreckError, T.ex_NoSuchDeed_WreckError, T.ex_CannotDo_WreckError, T.ex_InvalidForm_WreckError, T.ex_InvalidFile_WreckError, T.ex_NoRoom_WreckError, DL.o_isE T.xi_WreckError T.is_WreckError_InvalidFile, DL.o_isE T.xi_InvalidMachine T.is_InvalidMachine_InvalidFile, DL.o_isE T.xi_InvalidDisk T.is_InvalidDisk_InvalidFile, DL.o_isE T.xi_InvalidSketch T.is_InvalidSketch_InvalidFile, DL.o_isE T.xi_NoSuchDeed T.is_NoSuchDeed_InvalidFile, DL.o_isX T.xi_CannotDo T.is_CannotDo_InvalidFile, DL.o_isE T.xi_InvalidForm T.is_InvalidForm_InvalidFile, DL.o_isE T.xi_InvalidFile T.is_InvalidFile_InvalidFile, DL.o_isE T.xi_NoRoom T.is_NoRoom_InvalidFile, DL.o_isE T.xi_WreckError T.is_WreckError_NoRoom, DL.o_isE T.xi_InvalidMachine T.is_InvalidMachine_NoRoom, DL.o_isE T.xi_InvalidDisk T.is_InvalidDisk_NoRoom, DL.o_isE T.xi_InvalidSketch T.is_InvalidSketch_NoRoom, DL.o_isE T.xi_NoSuchDeed T.is_NoSuchDeed_NoRoom, DL.o_isX T.xi_CannotDo T.is_CannotDo_NoRoom, DL.o_isE T.xi_InvalidForm T.is_InvalidForm_NoRoom, DL.o_isE T.xi_InvalidFile T.is_InvalidFile_NoRoom, DL.o_isE T.xi_NoRoom T.is_NoRoom_NoRoom, DL.o_isE T.xi_WreckError T.is_WreckError_InvalidForm, DL.o_isE T.xi_InvalidMachine T.is_InvalidMachine_InvalidForm, DL.o_isE T.xi_InvalidDisk T.is_InvalidDisk_InvalidForm, DL.o_isE T.xi_InvalidSketch T.is_InvalidSketch_InvalidForm, DL.o_isE T.xi_NoSuchDeed T.is_NoSuchDeed_InvalidForm, DL.o_isX T.xi_CannotDo T.is_CannotDo_InvalidForm, DL.o_isE T.xi_InvalidForm T.is_InvalidForm_InvalidForm, DL.o_isE T.xi_InvalidFile T.is_InvalidFile_InvalidForm, DL.o_isE T.xi_NoRoom T.is_NoRoom_InvalidForm, qc, ↓DL.qtd, DL.qtu, ↓DL.qfd, DL.qfu,  optI, tupI]
        refine ⟨by rw [List.length_map]; unfold sizeLine; omega, SM v, x, rfl, rfl, W, by omega, fun c => absurd hx c, fun _ c => absurd c (by omega), fun n2 _ en hn2 => ?_⟩
        obtain rfl : n2 = n' := by omega
        refine ⟨fun _ => ?_, fun c => by rw [hcan] at c; cases c⟩
        refine opz_of (neSame (n := 1) okD.tupI (by decide)) ?_
        simp -dsimp only [↓DL.qd, DL.qu, DL.qs, ↓DL.s_seq, mkD, D.key, dgetM, hide, hideS, Slot.fr?, Slot.m?, Slot.put, D.seqs, D.tyN, startD, List.replicate, Nat.reduceSub, Nat.reduceAdd, Nat.reduceLeDiff, wipeD, unw, freeAt, Slot.free, Nat.reduceEqDiff, id_eq, eq_self, c_StripeForm_init, c__law_cell, c__law_is_right, c__law_mix, c__law_names, c__law_stripe, c_after, c_can_do, c_stripe_machine, T.ex_WreckError_WreckError, T.ex_InvalidMachine_WreckError, T.ex_InvalidDisk_WreckError, T.ex_InvalidSketch_WreckError, T.ex_NoSuchDeed_WreckError, T.ex_CannotDo_WreckError, T.ex_InvalidForm_WreckError, T.ex_InvalidFile_WreckError, T.ex_NoRoom_WreckError, DL.o_isE T.xi_WreckError T.is_WreckError_InvalidFile, DL.o_isE T.xi_InvalidMachine T.is_InvalidMachine_InvalidFile, DL.o_isE T.xi_InvalidDisk T.is_InvalidDisk_InvalidFile, DL.o_isE T.xi_InvalidSketch T.is_InvalidSketch_InvalidFile, DL.o_isE T.xi_NoSuchDeed T.is_NoSuchDeed_InvalidFile, DL.o_isX T.xi_CannotDo T.is_CannotDo_InvalidFile, DL.o_isE T.xi_InvalidForm T.is_InvalidForm_InvalidFile, DL.o_isE T.xi_InvalidFile T.is_InvalidFile_InvalidFile, DL.o_isE T.xi_NoRoom T.is_NoRoom_InvalidFile, DL.o_isE T.xi_WreckError T.is_WreckError_NoRoom, DL.o_isE T.xi_InvalidMachine T.is_InvalidMachine_NoRoom, DL.o_isE T.xi_InvalidDisk T.is_InvalidDisk_NoRoom, DL.o_isE T.xi_InvalidSketch T.is_InvalidSketch_NoRoom, DL.o_isE T.xi_NoSuchDeed T.is_NoSuchDeed_NoRoom, DL.o_isX T.xi_CannotDo T.is_CannotDo_NoRoom, DL.o_isE T.xi_InvalidForm T.is_InvalidForm_NoRoom, DL.o_isE T.xi_InvalidFile T.is_InvalidFile_NoRoom, DL.o_isE T.xi_NoRoom T.is_NoRoom_NoRoom, DL.o_isE T.xi_WreckError T.is_WreckError_InvalidForm, DL.o_isE T.xi_InvalidMachine T.is_InvalidMachine_InvalidForm, DL.o_isE T.xi_InvalidDisk T.is_InvalidDisk_InvalidForm, DL.o_isE T.xi_InvalidSketch T.is_InvalidSketch_InvalidForm, DL.o_isE T.xi_NoSuchDeed T.is_NoSuchDeed_InvalidForm, DL.o_isX T.xi_CannotDo T.is_CannotDo_InvalidForm, DL.o_isE T.xi_InvalidForm T.is_InvalidForm_InvalidForm, DL.o_isE T.xi_InvalidFile T.is_InvalidFile_InvalidForm, DL.o_isE T.xi_NoRoom T.is_NoRoom_InvalidForm, qc, ↓DL.qtd, DL.qtu, ↓DL.qfd, DL.qfu]
        refine hN _ ⟨g, .v (.fz (.int (n2 : Int))), .v (.fz (tupI (aft (dd (SM v).ds n2) x))), ?_, hg, rfl, rfl⟩
        rw [take_filter hdd, hcan]
        simp [tupI]
    rintro s ⟨g, c, d, rfl, hg, z3, z4⟩
    rw [List.take_length]
    obtain ⟨A, hA⟩ : ∃ A, A = (SM v).ds.filter fun d => can d x := ⟨_, rfl⟩
    rw [← hA]
    have hx4 : x.length = 4 := hx.1
    have a0 : atI (x.map D.int) 0 = some (.int (gi x 0)) := DL.atI_nat (k := 0) (by rw [List.getElem?_map, gi_get (by omega)]; rfl)
    have a1 : atI (x.map D.int) 1 = some (.int (gi x 1)) := DL.atI_nat (k := 1) (by rw [List.getElem?_map, gi_get (by omega)]; rfl)
    have a2 : atI (x.map D.int) 2 = some (.int (gi x 2)) := DL.atI_nat (k := 2) (by rw [List.getElem?_map, gi_get (by omega)]; rfl)
    have a3 : atI (x.map D.int) 3 = some (.int (gi x 3)) := DL.atI_nat (k := 3) (by rw [List.getElem?_map, gi_get (by omega)]; rfl)
    simp -dsimp only [↓DL.qd, DL.qu, DL.qs, ↓DL.s_seq, mkD, D.key, dgetM, hide, hideS, Slot.fr?, Slot.m?, Slot.put, D.seqs, D.tyN, startD, List.replicate, Nat.reduceSub, Nat.reduceAdd, Nat.reduceLeDiff, wipeD, unw, freeAt, Slot.free, Nat.reduceEqDiff, id_eq, eq_self, c_StripeForm_init, c__law_cell, c__law_is_right, c__law_mix, c__law_names, c__law_stripe, c_after, c_can_do, c_stripe_machine, T.ex_WreckError_WreckError, T.ex_InvalidMachine_WreckError, T.ex_InvalidDisk_WreckError, T.ex_InvalidSketch_WreckError, T.ex_NoSuchDeed_WreckError, T.ex_CannotDo_WreckError, T.ex_InvalidForm_WreckError, T.ex_InvalidFile_WreckError, T.ex_NoRoom_WreckError, DL.o_isE T.xi_WreckError T.is_WreckError_InvalidFile, DL.o_isE T.xi_InvalidMachine T.is_InvalidMachine_InvalidFile, DL.o_isE T.xi_InvalidDisk T.is_InvalidDisk_InvalidFile, DL.o_isE T.xi_InvalidSketch T.is_InvalidSketch_InvalidFile, DL.o_isE T.xi_NoSuchDeed T.is_NoSuchDeed_InvalidFile, DL.o_isX T.xi_CannotDo T.is_CannotDo_InvalidFile, DL.o_isE T.xi_InvalidForm T.is_InvalidForm_InvalidFile, DL.o_isE T.xi_InvalidFile T.is_InvalidFile_InvalidFile, DL.o_isE T.xi_NoRoom T.is_NoRoom_InvalidFile, DL.o_isE T.xi_WreckError T.is_WreckError_NoRoom, DL.o_isE T.xi_InvalidMachine T.is_InvalidMachine_NoRoom, DL.o_isE T.xi_InvalidDisk T.is_InvalidDisk_NoRoom, DL.o_isE T.xi_InvalidSketch T.is_InvalidSketch_NoRoom, DL.o_isE T.xi_NoSuchDeed T.is_NoSuchDeed_NoRoom, DL.o_isX T.xi_CannotDo T.is_CannotDo_NoRoom, DL.o_isE T.xi_InvalidForm T.is_InvalidForm_NoRoom, DL.o_isE T.xi_InvalidFile T.is_InvalidFile_NoRoom, DL.o_isE T.xi_NoRoom T.is_NoRoom_NoRoom, DL.o_isE T.xi_WreckError T.is_WreckError_InvalidForm, DL.o_isE T.xi_InvalidMachine T.is_InvalidMachine_InvalidForm, DL.o_isE T.xi_InvalidDisk T.is_InvalidDisk_InvalidForm, DL.o_isE T.xi_InvalidSketch T.is_InvalidSketch_InvalidForm, DL.o_isE T.xi_NoSuchDeed T.is_NoSuchDeed_InvalidForm, DL.o_isX T.xi_CannotDo T.is_CannotDo_InvalidForm, DL.o_isE T.xi_InvalidForm T.is_InvalidForm_InvalidForm, DL.o_isE T.xi_InvalidFile T.is_InvalidFile_InvalidForm, DL.o_isE T.xi_NoRoom T.is_NoRoom_InvalidForm, qc, ↓DL.qtd, DL.qtu, ↓DL.qfd, DL.qfu,  tupI, a0, a1, a2, a3]
    have f0 := @fmod_nn u5 (v : Int) (by omega)
    have f1 := @fmod_lt u5 (v : Int) (by omega)
    obtain ⟨w0, hf⟩ : ∃ f : Nat, u5.fmod (v : Int) = (f : Int) := ⟨_, (Int.toNat_of_nonneg f0).symm⟩
    refine ⟨by omega, v, w0, x, rfl, rfl, v2, v5, rfl, hx, hf, by omega, ?_⟩
    try simp -dsimp only [↓DL.qd, DL.qu, DL.qs, ↓DL.s_seq, mkD, D.key, dgetM, hide, hideS, Slot.fr?, Slot.m?, Slot.put, D.seqs, D.tyN, startD, List.replicate, Nat.reduceSub, Nat.reduceAdd, Nat.reduceLeDiff, wipeD, unw, freeAt, Slot.free, Nat.reduceEqDiff, id_eq, eq_self, c_StripeForm_init, c__law_cell, c__law_is_right, c__law_mix, c__law_names, c__law_stripe, c_after, c_can_do, c_stripe_machine, T.ex_WreckError_WreckError, T.ex_InvalidMachine_WreckError, T.ex_InvalidDisk_WreckError, T.ex_InvalidSketch_WreckError, T.ex_NoSuchDeed_WreckError, T.ex_CannotDo_WreckError, T.ex_InvalidForm_WreckError, T.ex_InvalidFile_WreckError, T.ex_NoRoom_WreckError, DL.o_isE T.xi_WreckError T.is_WreckError_InvalidFile, DL.o_isE T.xi_InvalidMachine T.is_InvalidMachine_InvalidFile, DL.o_isE T.xi_InvalidDisk T.is_InvalidDisk_InvalidFile, DL.o_isE T.xi_InvalidSketch T.is_InvalidSketch_InvalidFile, DL.o_isE T.xi_NoSuchDeed T.is_NoSuchDeed_InvalidFile, DL.o_isX T.xi_CannotDo T.is_CannotDo_InvalidFile, DL.o_isE T.xi_InvalidForm T.is_InvalidForm_InvalidFile, DL.o_isE T.xi_InvalidFile T.is_InvalidFile_InvalidFile, DL.o_isE T.xi_NoRoom T.is_NoRoom_InvalidFile, DL.o_isE T.xi_WreckError T.is_WreckError_NoRoom, DL.o_isE T.xi_InvalidMachine T.is_InvalidMachine_NoRoom, DL.o_isE T.xi_InvalidDisk T.is_InvalidDisk_NoRoom, DL.o_isE T.xi_InvalidSketch T.is_InvalidSketch_NoRoom, DL.o_isE T.xi_NoSuchDeed T.is_NoSuchDeed_NoRoom, DL.o_isX T.xi_CannotDo T.is_CannotDo_NoRoom, DL.o_isE T.xi_InvalidForm T.is_InvalidForm_NoRoom, DL.o_isE T.xi_InvalidFile T.is_InvalidFile_NoRoom, DL.o_isE T.xi_NoRoom T.is_NoRoom_NoRoom, DL.o_isE T.xi_WreckError T.is_WreckError_InvalidForm, DL.o_isE T.xi_InvalidMachine T.is_InvalidMachine_InvalidForm, DL.o_isE T.xi_InvalidDisk T.is_InvalidDisk_InvalidForm, DL.o_isE T.xi_InvalidSketch T.is_InvalidSketch_InvalidForm, DL.o_isE T.xi_NoSuchDeed T.is_NoSuchDeed_InvalidForm, DL.o_isX T.xi_CannotDo T.is_CannotDo_InvalidForm, DL.o_isE T.xi_InvalidForm T.is_InvalidForm_InvalidForm, DL.o_isE T.xi_InvalidFile T.is_InvalidFile_InvalidForm, DL.o_isE T.xi_NoRoom T.is_NoRoom_InvalidForm, qc, ↓DL.qtd, DL.qtu, ↓DL.qfd, DL.qfu,  a0, a1, a2, a3]
    obtain ⟨d0, hd0, hc0⟩ := List.any_eq_true.mp (SM_able5 ⟨v2, v5⟩ x (dk_all hx))
    have hAl : 0 < A.length := List.length_pos_of_mem (by rw [hA]; exact List.mem_filter.mpr ⟨hd0, hc0⟩)
    have q0 := @fmod_nn (u5.fdiv 8) A.length (by omega)
    have q1 := @fmod_lt (u5.fdiv 8) A.length (by omega)
    obtain ⟨j, hj⟩ : ∃ j : Nat, (u5.fdiv 8).fmod (A.length : Int) = (j : Int) := ⟨_, (Int.toNat_of_nonneg q0).symm⟩
    have hjl : j < A.length := by omega
    have hjm := List.mem_filter.mp ((congrArg (A[j] ∈ ·) hA).mp (List.getElem_mem hjl))
    have atj : atI (A.map fun d => D.tup (List.map D.int (aft d x))) ((u5.fdiv 8).fmod (A.length : Int)) = some (.tup ((aft A[j] x).map .int)) := by rw [hj]; exact DL.atI_nat (by rw [List.getElem?_map, List.getElem?_eq_getElem hjl]; rfl)
    have hdk := aft_dk W.sz (W.ds A[j] hjm.1) hx
    have hpar := SM_par5 ⟨v2, v5⟩ x (dk_all hx) A[j] hjm.1 hjm.2 hpx
    refine br_dec (fun c3 => ?_) (fun _ => ?_)
    · have ep : gi x 2 = (gi x 0 + gi x 1).fmod (v : Int) := by
        unfold par at hpx
        rw [c3] at hpx
        rw [Int.fmod_eq_emod_of_nonneg _ (by omega)]
        simpa using hpx
      simp -dsimp only [↓DL.qd, DL.qu, DL.qs, ↓DL.s_seq, mkD, D.key, dgetM, hide, hideS, Slot.fr?, Slot.m?, Slot.put, D.seqs, D.tyN, startD, List.replicate, Nat.reduceSub, Nat.reduceAdd, Nat.reduceLeDiff, wipeD, unw, freeAt, Slot.free, Nat.reduceEqDiff, id_eq, eq_self, c_StripeForm_init, c__law_cell, c__law_is_right, c__law_mix, c__law_names, c__law_stripe, c_after, c_can_do, c_stripe_machine, T.ex_WreckError_WreckError, T.ex_InvalidMachine_WreckError, T.ex_InvalidDisk_WreckError, T.ex_InvalidSketch_WreckError, T.ex_NoSuchDeed_WreckError, T.ex_CannotDo_WreckError, T.ex_InvalidForm_WreckError, T.ex_InvalidFile_WreckError, T.ex_NoRoom_WreckError, DL.o_isE T.xi_WreckError T.is_WreckError_InvalidFile, DL.o_isE T.xi_InvalidMachine T.is_InvalidMachine_InvalidFile, DL.o_isE T.xi_InvalidDisk T.is_InvalidDisk_InvalidFile, DL.o_isE T.xi_InvalidSketch T.is_InvalidSketch_InvalidFile, DL.o_isE T.xi_NoSuchDeed T.is_NoSuchDeed_InvalidFile, DL.o_isX T.xi_CannotDo T.is_CannotDo_InvalidFile, DL.o_isE T.xi_InvalidForm T.is_InvalidForm_InvalidFile, DL.o_isE T.xi_InvalidFile T.is_InvalidFile_InvalidFile, DL.o_isE T.xi_NoRoom T.is_NoRoom_InvalidFile, DL.o_isE T.xi_WreckError T.is_WreckError_NoRoom, DL.o_isE T.xi_InvalidMachine T.is_InvalidMachine_NoRoom, DL.o_isE T.xi_InvalidDisk T.is_InvalidDisk_NoRoom, DL.o_isE T.xi_InvalidSketch T.is_InvalidSketch_NoRoom, DL.o_isE T.xi_NoSuchDeed T.is_NoSuchDeed_NoRoom, DL.o_isX T.xi_CannotDo T.is_CannotDo_NoRoom, DL.o_isE T.xi_InvalidForm T.is_InvalidForm_NoRoom, DL.o_isE T.xi_InvalidFile T.is_InvalidFile_NoRoom, DL.o_isE T.xi_NoRoom T.is_NoRoom_NoRoom, DL.o_isE T.xi_WreckError T.is_WreckError_InvalidForm, DL.o_isE T.xi_InvalidMachine T.is_InvalidMachine_InvalidForm, DL.o_isE T.xi_InvalidDisk T.is_InvalidDisk_InvalidForm, DL.o_isE T.xi_InvalidSketch T.is_InvalidSketch_InvalidForm, DL.o_isE T.xi_NoSuchDeed T.is_NoSuchDeed_InvalidForm, DL.o_isX T.xi_CannotDo T.is_CannotDo_InvalidForm, DL.o_isE T.xi_InvalidForm T.is_InvalidForm_InvalidForm, DL.o_isE T.xi_InvalidFile T.is_InvalidFile_InvalidForm, DL.o_isE T.xi_NoRoom T.is_NoRoom_InvalidForm, qc, ↓DL.qtd, DL.qtu, ↓DL.qfd, DL.qfu,  a0, a1, a2]
      refine ⟨by omega, ?_⟩
      rw [← ep]
      simp -dsimp only [↓DL.qd, DL.qu, DL.qs, ↓DL.s_seq, mkD, D.key, dgetM, hide, hideS, Slot.fr?, Slot.m?, Slot.put, D.seqs, D.tyN, startD, List.replicate, Nat.reduceSub, Nat.reduceAdd, Nat.reduceLeDiff, wipeD, unw, freeAt, Slot.free, Nat.reduceEqDiff, id_eq, eq_self, c_StripeForm_init, c__law_cell, c__law_is_right, c__law_mix, c__law_names, c__law_stripe, c_after, c_can_do, c_stripe_machine, T.ex_WreckError_WreckError, T.ex_InvalidMachine_WreckError, T.ex_InvalidDisk_WreckError, T.ex_InvalidSketch_WreckError, T.ex_NoSuchDeed_WreckError, T.ex_CannotDo_WreckError, T.ex_InvalidForm_WreckError, T.ex_InvalidFile_WreckError, T.ex_NoRoom_WreckError, DL.o_isE T.xi_WreckError T.is_WreckError_InvalidFile, DL.o_isE T.xi_InvalidMachine T.is_InvalidMachine_InvalidFile, DL.o_isE T.xi_InvalidDisk T.is_InvalidDisk_InvalidFile, DL.o_isE T.xi_InvalidSketch T.is_InvalidSketch_InvalidFile, DL.o_isE T.xi_NoSuchDeed T.is_NoSuchDeed_InvalidFile, DL.o_isX T.xi_CannotDo T.is_CannotDo_InvalidFile, DL.o_isE T.xi_InvalidForm T.is_InvalidForm_InvalidFile, DL.o_isE T.xi_InvalidFile T.is_InvalidFile_InvalidFile, DL.o_isE T.xi_NoRoom T.is_NoRoom_InvalidFile, DL.o_isE T.xi_WreckError T.is_WreckError_NoRoom, DL.o_isE T.xi_InvalidMachine T.is_InvalidMachine_NoRoom, DL.o_isE T.xi_InvalidDisk T.is_InvalidDisk_NoRoom, DL.o_isE T.xi_InvalidSketch T.is_InvalidSketch_NoRoom, DL.o_isE T.xi_NoSuchDeed T.is_NoSuchDeed_NoRoom, DL.o_isX T.xi_CannotDo T.is_CannotDo_NoRoom, DL.o_isE T.xi_InvalidForm T.is_InvalidForm_NoRoom, DL.o_isE T.xi_InvalidFile T.is_InvalidFile_NoRoom, DL.o_isE T.xi_NoRoom T.is_NoRoom_NoRoom, DL.o_isE T.xi_WreckError T.is_WreckError_InvalidForm, DL.o_isE T.xi_InvalidMachine T.is_InvalidMachine_InvalidForm, DL.o_isE T.xi_InvalidDisk T.is_InvalidDisk_InvalidForm, DL.o_isE T.xi_InvalidSketch T.is_InvalidSketch_InvalidForm, DL.o_isE T.xi_NoSuchDeed T.is_NoSuchDeed_InvalidForm, DL.o_isX T.xi_CannotDo T.is_CannotDo_InvalidForm, DL.o_isE T.xi_InvalidForm T.is_InvalidForm_InvalidForm, DL.o_isE T.xi_InvalidFile T.is_InvalidFile_InvalidForm, DL.o_isE T.xi_NoRoom T.is_NoRoom_InvalidForm, qc, ↓DL.qtd, DL.qtu, ↓DL.qfd, DL.qfu,  List.length_map, atj]
      exact ⟨cfd_r (by decide) (by decide), by omega, hN _ ⟨g, ce, _, b, c, d, _, _, aft A[j] x, rfl, hg, hdk, hpar, rfl, z3, z4, rfl, rfl⟩⟩
    · simp -dsimp only [↓DL.qd, DL.qu, DL.qs, ↓DL.s_seq, mkD, D.key, dgetM, hide, hideS, Slot.fr?, Slot.m?, Slot.put, D.seqs, D.tyN, startD, List.replicate, Nat.reduceSub, Nat.reduceAdd, Nat.reduceLeDiff, wipeD, unw, freeAt, Slot.free, Nat.reduceEqDiff, id_eq, eq_self, c_StripeForm_init, c__law_cell, c__law_is_right, c__law_mix, c__law_names, c__law_stripe, c_after, c_can_do, c_stripe_machine, T.ex_WreckError_WreckError, T.ex_InvalidMachine_WreckError, T.ex_InvalidDisk_WreckError, T.ex_InvalidSketch_WreckError, T.ex_NoSuchDeed_WreckError, T.ex_CannotDo_WreckError, T.ex_InvalidForm_WreckError, T.ex_InvalidFile_WreckError, T.ex_NoRoom_WreckError, DL.o_isE T.xi_WreckError T.is_WreckError_InvalidFile, DL.o_isE T.xi_InvalidMachine T.is_InvalidMachine_InvalidFile, DL.o_isE T.xi_InvalidDisk T.is_InvalidDisk_InvalidFile, DL.o_isE T.xi_InvalidSketch T.is_InvalidSketch_InvalidFile, DL.o_isE T.xi_NoSuchDeed T.is_NoSuchDeed_InvalidFile, DL.o_isX T.xi_CannotDo T.is_CannotDo_InvalidFile, DL.o_isE T.xi_InvalidForm T.is_InvalidForm_InvalidFile, DL.o_isE T.xi_InvalidFile T.is_InvalidFile_InvalidFile, DL.o_isE T.xi_NoRoom T.is_NoRoom_InvalidFile, DL.o_isE T.xi_WreckError T.is_WreckError_NoRoom, DL.o_isE T.xi_InvalidMachine T.is_InvalidMachine_NoRoom, DL.o_isE T.xi_InvalidDisk T.is_InvalidDisk_NoRoom, DL.o_isE T.xi_InvalidSketch T.is_InvalidSketch_NoRoom, DL.o_isE T.xi_NoSuchDeed T.is_NoSuchDeed_NoRoom, DL.o_isX T.xi_CannotDo T.is_CannotDo_NoRoom, DL.o_isE T.xi_InvalidForm T.is_InvalidForm_NoRoom, DL.o_isE T.xi_InvalidFile T.is_InvalidFile_NoRoom, DL.o_isE T.xi_NoRoom T.is_NoRoom_NoRoom, DL.o_isE T.xi_WreckError T.is_WreckError_InvalidForm, DL.o_isE T.xi_InvalidMachine T.is_InvalidMachine_InvalidForm, DL.o_isE T.xi_InvalidDisk T.is_InvalidDisk_InvalidForm, DL.o_isE T.xi_InvalidSketch T.is_InvalidSketch_InvalidForm, DL.o_isE T.xi_NoSuchDeed T.is_NoSuchDeed_InvalidForm, DL.o_isX T.xi_CannotDo T.is_CannotDo_InvalidForm, DL.o_isE T.xi_InvalidForm T.is_InvalidForm_InvalidForm, DL.o_isE T.xi_InvalidFile T.is_InvalidFile_InvalidForm, DL.o_isE T.xi_NoRoom T.is_NoRoom_InvalidForm, qc, ↓DL.qtd, DL.qtu, ↓DL.qfd, DL.qfu,  List.length_map, atj]
      exact ⟨cfd_r (by decide) (by decide), by omega, hN _ ⟨g, ce, _, b, c, d, _, _, aft A[j] x, rfl, hg, hdk, hpar, rfl, z3, z4, rfl, rfl⟩⟩
  rintro s ⟨g, ce, a, b, c, d, e, f, x, rfl, hg, hx, hpx, z1, z3, z4, z5, z6⟩
  simp -dsimp only [↓DL.qd, DL.qu, DL.qs, ↓DL.s_seq, mkD, D.key, dgetM, hide, hideS, Slot.fr?, Slot.m?, Slot.put, D.seqs, D.tyN, startD, List.replicate, Nat.reduceSub, Nat.reduceAdd, Nat.reduceLeDiff, wipeD, unw, freeAt, Slot.free, Nat.reduceEqDiff, id_eq, eq_self, c_StripeForm_init, c__law_cell, c__law_is_right, c__law_mix, c__law_names, c__law_stripe, c_after, c_can_do, c_stripe_machine, T.ex_WreckError_WreckError, T.ex_InvalidMachine_WreckError, T.ex_InvalidDisk_WreckError, T.ex_InvalidSketch_WreckError, T.ex_NoSuchDeed_WreckError, T.ex_CannotDo_WreckError, T.ex_InvalidForm_WreckError, T.ex_InvalidFile_WreckError, T.ex_NoRoom_WreckError, DL.o_isE T.xi_WreckError T.is_WreckError_InvalidFile, DL.o_isE T.xi_InvalidMachine T.is_InvalidMachine_InvalidFile, DL.o_isE T.xi_InvalidDisk T.is_InvalidDisk_InvalidFile, DL.o_isE T.xi_InvalidSketch T.is_InvalidSketch_InvalidFile, DL.o_isE T.xi_NoSuchDeed T.is_NoSuchDeed_InvalidFile, DL.o_isX T.xi_CannotDo T.is_CannotDo_InvalidFile, DL.o_isE T.xi_InvalidForm T.is_InvalidForm_InvalidFile, DL.o_isE T.xi_InvalidFile T.is_InvalidFile_InvalidFile, DL.o_isE T.xi_NoRoom T.is_NoRoom_InvalidFile, DL.o_isE T.xi_WreckError T.is_WreckError_NoRoom, DL.o_isE T.xi_InvalidMachine T.is_InvalidMachine_NoRoom, DL.o_isE T.xi_InvalidDisk T.is_InvalidDisk_NoRoom, DL.o_isE T.xi_InvalidSketch T.is_InvalidSketch_NoRoom, DL.o_isE T.xi_NoSuchDeed T.is_NoSuchDeed_NoRoom, DL.o_isX T.xi_CannotDo T.is_CannotDo_NoRoom, DL.o_isE T.xi_InvalidForm T.is_InvalidForm_NoRoom, DL.o_isE T.xi_InvalidFile T.is_InvalidFile_NoRoom, DL.o_isE T.xi_NoRoom T.is_NoRoom_NoRoom, DL.o_isE T.xi_WreckError T.is_WreckError_InvalidForm, DL.o_isE T.xi_InvalidMachine T.is_InvalidMachine_InvalidForm, DL.o_isE T.xi_InvalidDisk T.is_InvalidDisk_InvalidForm, DL.o_isE T.xi_InvalidSketch T.is_InvalidSketch_InvalidForm, DL.o_isE T.xi_NoSuchDeed T.is_NoSuchDeed_InvalidForm, DL.o_isX T.xi_CannotDo T.is_CannotDo_InvalidForm, DL.o_isE T.xi_InvalidForm T.is_InvalidForm_InvalidForm, DL.o_isE T.xi_InvalidFile T.is_InvalidFile_InvalidForm, DL.o_isE T.xi_NoRoom T.is_NoRoom_InvalidForm, qc, ↓DL.qtd, DL.qtu, ↓DL.qfd, DL.qfu]
  exact h
end
end K45
namespace K45
open PySem PySem.Spec L2 DL Msk Tel
theorem all_mk {P : Program} {w : World} {K : PySem.W.Frag} {h : Heap} {mg : Str → Option Value} {fa : Addr} (X : K.In h) (G : h.Ns mainGlobals mg) (hfa : mg "law" = some (.ref fa))
    {C_Machine : Addr}
    {C_StripeForm : Addr}
    {f0 : Addr} {od0 an0 : Option Addr} {sl0 : Array (Option Value)} {oc0 kV0 dc0 pm0 cd0 ct0 : Value}
    {f1 : Addr} {od1 an1 : Option Addr} {sl1 : Array (Option Value)} {oc1 kV1 dc1 pm1 cd1 ct1 : Value}
    {f2 : Addr} {od2 an2 : Option Addr} {sl2 : Array (Option Value)} {oc2 kV2 dc2 pm2 cd2 ct2 : Value}
    {f3 : Addr} {od3 an3 : Option Addr} {sl3 : Array (Option Value)} {oc3 kV3 dc3 pm3 cd3 ct3 : Value}
    {f4 : Addr} {od4 an4 : Option Addr} {sl4 : Array (Option Value)} {oc4 kV4 dc4 pm4 cd4 ct4 : Value}
    {f5 : Addr} {od5 an5 : Option Addr} {sl5 : Array (Option Value)} {oc5 kV5 dc5 pm5 cd5 ct5 : Value}
    {f6 : Addr} {od6 an6 : Option Addr} {sl6 : Array (Option Value)} {oc6 kV6 dc6 pm6 cd6 ct6 : Value}
    {f7 : Addr} {od7 an7 : Option Addr} {sl7 : Array (Option Value)} {oc7 kV7 dc7 pm7 cd7 ct7 : Value}
    {f8 : Addr} {od8 an8 : Option Addr} {sl8 : Array (Option Value)} {oc8 kV8 dc8 pm8 cd8 ct8 : Value}
    {f9 : Addr} {od9 an9 : Option Addr} {sl9 : Array (Option Value)} {oc9 kV9 dc9 pm9 cd9 ct9 : Value}
    {f10 : Addr} {od10 an10 : Option Addr} {sl10 : Array (Option Value)} {oc10 kV10 dc10 pm10 cd10 ct10 : Value}
    {f11 : Addr} {od11 an11 : Option Addr} {sl11 : Array (Option Value)} {oc11 kV11 dc11 pm11 cd11 ct11 : Value}
    {f12 : Addr} {od12 an12 : Option Addr} {sl12 : Array (Option Value)} {oc12 kV12 dc12 pm12 cd12 ct12 : Value}
    {f13 : Addr} {od13 an13 : Option Addr} {sl13 : Array (Option Value)} {oc13 kV13 dc13 pm13 cd13 ct13 : Value}
    {f14 : Addr} {od14 an14 : Option Addr} {sl14 : Array (Option Value)} {oc14 kV14 dc14 pm14 cd14 ct14 : Value}
    {f15 : Addr} {od15 an15 : Option Addr} {sl15 : Array (Option Value)} {oc15 kV15 dc15 pm15 cd15 ct15 : Value}
    {f16 : Addr} {od16 an16 : Option Addr} {sl16 : Array (Option Value)} {oc16 kV16 dc16 pm16 cd16 ct16 : Value}
    {f17 : Addr} {od17 an17 : Option Addr} {sl17 : Array (Option Value)} {oc17 kV17 dc17 pm17 cd17 ct17 : Value}
    {f18 : Addr} {od18 an18 : Option Addr} {sl18 : Array (Option Value)} {oc18 kV18 dc18 pm18 cd18 ct18 : Value}
    {f19 : Addr} {od19 an19 : Option Addr} {sl19 : Array (Option Value)} {oc19 kV19 dc19 pm19 cd19 ct19 : Value}
    {f20 : Addr} {od20 an20 : Option Addr} {sl20 : Array (Option Value)} {oc20 kV20 dc20 pm20 cd20 ct20 : Value}
    {f21 : Addr} {od21 an21 : Option Addr} {sl21 : Array (Option Value)} {oc21 kV21 dc21 pm21 cd21 ct21 : Value}
    {f22 : Addr} {od22 an22 : Option Addr} {sl22 : Array (Option Value)} {oc22 kV22 dc22 pm22 cd22 ct22 : Value}
    {f23 : Addr} {od23 an23 : Option Addr} {sl23 : Array (Option Value)} {oc23 kV23 dc23 pm23 cd23 ct23 : Value}
    {f24 : Addr} {od24 an24 : Option Addr} {sl24 : Array (Option Value)} {oc24 kV24 dc24 pm24 cd24 ct24 : Value}
    {f25 : Addr} {od25 an25 : Option Addr} {sl25 : Array (Option Value)} {oc25 kV25 dc25 pm25 cd25 ct25 : Value}
    {f26 : Addr} {od26 an26 : Option Addr} {sl26 : Array (Option Value)} {oc26 kV26 dc26 pm26 cd26 ct26 : Value}
    {f27 : Addr} {od27 an27 : Option Addr} {sl27 : Array (Option Value)} {oc27 kV27 dc27 pm27 cd27 ct27 : Value}
    {f28 : Addr} {od28 an28 : Option Addr} {sl28 : Array (Option Value)} {oc28 kV28 dc28 pm28 cd28 ct28 : Value}
    {f29 : Addr} {od29 an29 : Option Addr} {sl29 : Array (Option Value)} {oc29 kV29 dc29 pm29 cd29 ct29 : Value}
    {f30 : Addr} {od30 an30 : Option Addr} {sl30 : Array (Option Value)} {oc30 kV30 dc30 pm30 cd30 ct30 : Value}
    {f31 : Addr} {od31 an31 : Option Addr} {sl31 : Array (Option Value)} {oc31 kV31 dc31 pm31 cd31 ct31 : Value}
    {C_WreckError : Addr}
    {C_InvalidMachine : Addr}
    {C_InvalidDisk : Addr}
    {C_InvalidSketch : Addr}
    {C_NoSuchDeed : Addr}
    {C_CannotDo : Addr}
    {I_CannotDo cc_CannotDo cda_CannotDo : Addr} {od_CannotDo an_CannotDo cdd_CannotDo cld_CannotDo : Option Addr} {sl_CannotDo ccs_CannotDo csl_CannotDo : Array (Option Value)} {oc_CannotDo ccl_CannotDo cl_CannotDo kV_CannotDo dc_CannotDo pm_CannotDo ct_CannotDo : Value} {vs_CannotDo : Array Value} {file_CannotDo : Str} {tf_CannotDo : Tok}
    {C_InvalidForm : Addr}
    {C_InvalidFile : Addr}
    {C_NoRoom : Addr}
    {t_MOST_CELLS : Tok}
    {t_MOST_VALUES : Tok}
    {t_MOST_DEEDS : Tok}
    {t_LONGEST_NAME : Tok}
    {t_LOWER : Tok}
    {t_DIGITS : Tok}
    {t_PARITY : Tok}
    {t_WORK : Tok}
    {t_NO_WORK : Tok}
    {t_SOME_WORK : Tok}
    (gC_Machine : PySem.W.nsIn K mainGlobals "Machine" = some (some (.ref C_Machine)))
    (pg_Machine : PySem.W.plainGet K C_Machine Str.empty = true)
    (hd_Machine : PySem.W.hasDictIn K C_Machine = true)
    (po_Machine : PySem.W.plainOver K C_Machine = true)
    (sa_Machine : PySem.W.findIn K (.ref C_Machine) "__setattr__" = some (some (.builtin "object.__setattr__")))
    (mk_Machine : PySem.W.makesIn K C_Machine = true)
    (kc_Machine : PySem.W.keepIn K (.ref C_Machine) = true)
    (nf_cells_Machine : PySem.W.findIn K (.ref C_Machine) "cells" = some none)
    (nf_deeds_Machine : PySem.W.findIn K (.ref C_Machine) "deeds" = some none)
    (nf_first_Machine : PySem.W.findIn K (.ref C_Machine) "first" = some none)
    (gC_StripeForm : PySem.W.nsIn K mainGlobals "StripeForm" = some (some (.ref C_StripeForm)))
    (pg_StripeForm : PySem.W.plainGet K C_StripeForm Str.empty = true)
    (hd_StripeForm : PySem.W.hasDictIn K C_StripeForm = true)
    (po_StripeForm : PySem.W.plainOver K C_StripeForm = true)
    (sa_StripeForm : PySem.W.findIn K (.ref C_StripeForm) "__setattr__" = some (some (.builtin "object.__setattr__")))
    (mk_StripeForm : PySem.W.makesIn K C_StripeForm = true)
    (kc_StripeForm : PySem.W.keepIn K (.ref C_StripeForm) = true)
    (nf_alphabet_StripeForm : PySem.W.findIn K (.ref C_StripeForm) "alphabet" = some none)
    (a0 : PySem.W.nsIn K mainGlobals "check_range" = some (some (.ref f0))) (l0 : K.lookup f0 = some ⟨oc0, od0, .func (PySem.W.fnOf "check_range" "check_range" (defArgs s_check_range) (defBody s_check_range) (defScope s_check_range) .none kV0 dc0 pm0 an0 cd0 ct0), sl0⟩) (c0 : PySem.W.codeIn K cd0 "check_range" = true) (k0 : PySem.W.keepIn K (.ref f0) = true)
    (a1 : PySem.W.findIn K (.ref C_StripeForm) "__init__" = some (some (.ref f1))) (i1 : PySem.W.isFn K (.ref f1) = true) (l1 : K.lookup f1 = some ⟨oc1, od1, .func (PySem.W.fnOf "__init__" "StripeForm.__init__" (defArgs s_StripeForm_init) (defBody s_StripeForm_init) (defScope s_StripeForm_init) .none kV1 dc1 pm1 an1 cd1 ct1), sl1⟩) (c1 : PySem.W.codeIn K cd1 "StripeForm.__init__" = true) (k1 : PySem.W.keepIn K (.ref f1) = true)
    (a2 : PySem.W.nsIn K mainGlobals "_law_cell" = some (some (.ref f2))) (l2 : K.lookup f2 = some ⟨oc2, od2, .func (PySem.W.fnOf "_law_cell" "_law_cell" (defArgs s__law_cell) (defBody s__law_cell) (defScope s__law_cell) .none kV2 dc2 pm2 an2 cd2 ct2), sl2⟩) (c2 : PySem.W.codeIn K cd2 "_law_cell" = true) (k2 : PySem.W.keepIn K (.ref f2) = true)
    (a3 : PySem.W.nsIn K mainGlobals "_law_stripe" = some (some (.ref f3))) (l3 : K.lookup f3 = some ⟨oc3, od3, .func (PySem.W.fnOf "_law_stripe" "_law_stripe" (defArgs s__law_stripe) (defBody s__law_stripe) (defScope s__law_stripe) .none kV3 dc3 pm3 an3 cd3 ct3), sl3⟩) (c3 : PySem.W.codeIn K cd3 "_law_stripe" = true) (k3 : PySem.W.keepIn K (.ref f3) = true)
    (a4 : PySem.W.nsIn K mainGlobals "_check_number" = some (some (.ref f4))) (l4 : K.lookup f4 = some ⟨oc4, od4, .func (PySem.W.fnOf "_check_number" "_check_number" (defArgs s__check_number) (defBody s__check_number) (defScope s__check_number) .none kV4 dc4 pm4 an4 cd4 ct4), sl4⟩) (c4 : PySem.W.codeIn K cd4 "_check_number" = true) (k4 : PySem.W.keepIn K (.ref f4) = true)
    (a5 : PySem.W.nsIn K mainGlobals "check_value" = some (some (.ref f5))) (l5 : K.lookup f5 = some ⟨oc5, od5, .func (PySem.W.fnOf "check_value" "check_value" (defArgs s_check_value) (defBody s_check_value) (defScope s_check_value) .none kV5 dc5 pm5 an5 cd5 ct5), sl5⟩) (c5 : PySem.W.codeIn K cd5 "check_value" = true) (k5 : PySem.W.keepIn K (.ref f5) = true)
    (a6 : PySem.W.nsIn K mainGlobals "stripe_begin" = some (some (.ref f6))) (l6 : K.lookup f6 = some ⟨oc6, od6, .func (PySem.W.fnOf "stripe_begin" "stripe_begin" (defArgs s_stripe_begin) (defBody s_stripe_begin) (defScope s_stripe_begin) .none kV6 dc6 pm6 an6 cd6 ct6), sl6⟩) (c6 : PySem.W.codeIn K cd6 "stripe_begin" = true) (k6 : PySem.W.keepIn K (.ref f6) = true)
    (a7 : PySem.W.nsIn K mainGlobals "stripe_end" = some (some (.ref f7))) (l7 : K.lookup f7 = some ⟨oc7, od7, .func (PySem.W.fnOf "stripe_end" "stripe_end" (defArgs s_stripe_end) (defBody s_stripe_end) (defScope s_stripe_end) .none kV7 dc7 pm7 an7 cd7 ct7), sl7⟩) (c7 : PySem.W.codeIn K cd7 "stripe_end" = true) (k7 : PySem.W.keepIn K (.ref f7) = true)
    (a8 : PySem.W.nsIn K mainGlobals "stripe_rebuild" = some (some (.ref f8))) (l8 : K.lookup f8 = some ⟨oc8, od8, .func (PySem.W.fnOf "stripe_rebuild" "stripe_rebuild" (defArgs s_stripe_rebuild) (defBody s_stripe_rebuild) (defScope s_stripe_rebuild) .none kV8 dc8 pm8 an8 cd8 ct8), sl8⟩) (c8 : PySem.W.codeIn K cd8 "stripe_rebuild" = true) (k8 : PySem.W.keepIn K (.ref f8) = true)
    (a9 : PySem.W.nsIn K mainGlobals "_law_tried" = some (some (.ref f9))) (l9 : K.lookup f9 = some ⟨oc9, od9, .func (PySem.W.fnOf "_law_tried" "_law_tried" (defArgs s__law_tried) (defBody s__law_tried) (defScope s__law_tried) .none kV9 dc9 pm9 an9 cd9 ct9), sl9⟩) (c9 : PySem.W.codeIn K cd9 "_law_tried" = true) (k9 : PySem.W.keepIn K (.ref f9) = true)
    (a10 : PySem.W.nsIn K mainGlobals "_law_is_right" = some (some (.ref f10))) (l10 : K.lookup f10 = some ⟨oc10, od10, .func (PySem.W.fnOf "_law_is_right" "_law_is_right" (defArgs s__law_is_right) (defBody s__law_is_right) (defScope s__law_is_right) .none kV10 dc10 pm10 an10 cd10 ct10), sl10⟩) (c10 : PySem.W.codeIn K cd10 "_law_is_right" = true) (k10 : PySem.W.keepIn K (.ref f10) = true)
    (a11 : PySem.W.nsIn K mainGlobals "_law_mix" = some (some (.ref f11))) (l11 : K.lookup f11 = some ⟨oc11, od11, .func (PySem.W.fnOf "_law_mix" "_law_mix" (defArgs s__law_mix) (defBody s__law_mix) (defScope s__law_mix) .none kV11 dc11 pm11 an11 cd11 ct11), sl11⟩) (c11 : PySem.W.codeIn K cd11 "_law_mix" = true) (k11 : PySem.W.keepIn K (.ref f11) = true)
    (a12 : PySem.W.nsIn K mainGlobals "_law_names" = some (some (.ref f12))) (l12 : K.lookup f12 = some ⟨oc12, od12, .func (PySem.W.fnOf "_law_names" "_law_names" (defArgs s__law_names) (defBody s__law_names) (defScope s__law_names) .none kV12 dc12 pm12 an12 cd12 ct12), sl12⟩) (c12 : PySem.W.codeIn K cd12 "_law_names" = true) (k12 : PySem.W.keepIn K (.ref f12) = true)
    (a13 : PySem.W.nsIn K mainGlobals "_changed" = some (some (.ref f13))) (l13 : K.lookup f13 = some ⟨oc13, od13, .func (PySem.W.fnOf "_changed" "_changed" (defArgs s__changed) (defBody s__changed) (defScope s__changed) .none kV13 dc13 pm13 an13 cd13 ct13), sl13⟩) (c13 : PySem.W.codeIn K cd13 "_changed" = true) (k13 : PySem.W.keepIn K (.ref f13) = true)
    (a14 : PySem.W.nsIn K mainGlobals "_guard_holds" = some (some (.ref f14))) (l14 : K.lookup f14 = some ⟨oc14, od14, .func (PySem.W.fnOf "_guard_holds" "_guard_holds" (defArgs s__guard_holds) (defBody s__guard_holds) (defScope s__guard_holds) .none kV14 dc14 pm14 an14 cd14 ct14), sl14⟩) (c14 : PySem.W.codeIn K cd14 "_guard_holds" = true) (k14 : PySem.W.keepIn K (.ref f14) = true)
    (a15 : PySem.W.nsIn K mainGlobals "check_deed" = some (some (.ref f15))) (l15 : K.lookup f15 = some ⟨oc15, od15, .func (PySem.W.fnOf "check_deed" "check_deed" (defArgs s_check_deed) (defBody s_check_deed) (defScope s_check_deed) .none kV15 dc15 pm15 an15 cd15 ct15), sl15⟩) (c15 : PySem.W.codeIn K cd15 "check_deed" = true) (k15 : PySem.W.keepIn K (.ref f15) = true)
    (a16 : PySem.W.nsIn K mainGlobals "check_disk" = some (some (.ref f16))) (l16 : K.lookup f16 = some ⟨oc16, od16, .func (PySem.W.fnOf "check_disk" "check_disk" (defArgs s_check_disk) (defBody s_check_disk) (defScope s_check_disk) .none kV16 dc16 pm16 an16 cd16 ct16), sl16⟩) (c16 : PySem.W.codeIn K cd16 "check_disk" = true) (k16 : PySem.W.keepIn K (.ref f16) = true)
    (a17 : PySem.W.nsIn K mainGlobals "can_do" = some (some (.ref f17))) (l17 : K.lookup f17 = some ⟨oc17, od17, .func (PySem.W.fnOf "can_do" "can_do" (defArgs s_can_do) (defBody s_can_do) (defScope s_can_do) .none kV17 dc17 pm17 an17 cd17 ct17), sl17⟩) (c17 : PySem.W.codeIn K cd17 "can_do" = true) (k17 : PySem.W.keepIn K (.ref f17) = true)
    (a18 : PySem.W.nsIn K mainGlobals "after" = some (some (.ref f18))) (l18 : K.lookup f18 = some ⟨oc18, od18, .func (PySem.W.fnOf "after" "after" (defArgs s_after) (defBody s_after) (defScope s_after) .none kV18 dc18 pm18 an18 cd18 ct18), sl18⟩) (c18 : PySem.W.codeIn K cd18 "after" = true) (k18 : PySem.W.keepIn K (.ref f18) = true)
    (a19 : PySem.W.nsIn K mainGlobals "is_mask" = some (some (.ref f19))) (l19 : K.lookup f19 = some ⟨oc19, od19, .func (PySem.W.fnOf "is_mask" "is_mask" (defArgs s_is_mask) (defBody s_is_mask) (defScope s_is_mask) .none kV19 dc19 pm19 an19 cd19 ct19), sl19⟩) (c19 : PySem.W.codeIn K cd19 "is_mask" = true) (k19 : PySem.W.keepIn K (.ref f19) = true)
    (a20 : PySem.W.findIn K (.ref C_Machine) "_check_deed" = some (some (.ref f20))) (i20 : PySem.W.isFn K (.ref f20) = true) (l20 : K.lookup f20 = some ⟨oc20, od20, .func (PySem.W.fnOf "_check_deed" "Machine._check_deed" (defArgs s_Machine__check_deed) (defBody s_Machine__check_deed) (defScope s_Machine__check_deed) .none kV20 dc20 pm20 an20 cd20 ct20), sl20⟩) (c20 : PySem.W.codeIn K cd20 "Machine._check_deed" = true) (k20 : PySem.W.keepIn K (.ref f20) = true)
    (a21 : PySem.W.nsIn K mainGlobals "is_name" = some (some (.ref f21))) (l21 : K.lookup f21 = some ⟨oc21, od21, .func (PySem.W.fnOf "is_name" "is_name" (defArgs s_is_name) (defBody s_is_name) (defScope s_is_name) .none kV21 dc21 pm21 an21 cd21 ct21), sl21⟩) (c21 : PySem.W.codeIn K cd21 "is_name" = true) (k21 : PySem.W.keepIn K (.ref f21) = true)
    (a22 : PySem.W.nsIn K mainGlobals "_check_names" = some (some (.ref f22))) (l22 : K.lookup f22 = some ⟨oc22, od22, .func (PySem.W.fnOf "_check_names" "_check_names" (defArgs s__check_names) (defBody s__check_names) (defScope s__check_names) .none kV22 dc22 pm22 an22 cd22 ct22), sl22⟩) (c22 : PySem.W.codeIn K cd22 "_check_names" = true) (k22 : PySem.W.keepIn K (.ref f22) = true)
    (a23 : PySem.W.nsIn K mainGlobals "_check_order" = some (some (.ref f23))) (l23 : K.lookup f23 = some ⟨oc23, od23, .func (PySem.W.fnOf "_check_order" "_check_order" (defArgs s__check_order) (defBody s__check_order) (defScope s__check_order) .none kV23 dc23 pm23 an23 cd23 ct23), sl23⟩) (c23 : PySem.W.codeIn K cd23 "_check_order" = true) (k23 : PySem.W.keepIn K (.ref f23) = true)
    (a24 : PySem.W.findIn K (.ref C_Machine) "__init__" = some (some (.ref f24))) (i24 : PySem.W.isFn K (.ref f24) = true) (l24 : K.lookup f24 = some ⟨oc24, od24, .func (PySem.W.fnOf "__init__" "Machine.__init__" (defArgs s_Machine_init) (defBody s_Machine_init) (defScope s_Machine_init) .none kV24 dc24 pm24 an24 cd24 ct24), sl24⟩) (c24 : PySem.W.codeIn K cd24 "Machine.__init__" = true) (k24 : PySem.W.keepIn K (.ref f24) = true)
    (a25 : PySem.W.nsIn K mainGlobals "one" = some (some (.ref f25))) (l25 : K.lookup f25 = some ⟨oc25, od25, .func (PySem.W.fnOf "one" "one" (defArgs s_one) (defBody s_one) (defScope s_one) .none kV25 dc25 pm25 an25 cd25 ct25), sl25⟩) (c25 : PySem.W.codeIn K cd25 "one" = true) (k25 : PySem.W.keepIn K (.ref f25) = true)
    (a26 : PySem.W.nsIn K mainGlobals "set_to" = some (some (.ref f26))) (l26 : K.lookup f26 = some ⟨oc26, od26, .func (PySem.W.fnOf "set_to" "set_to" (defArgs s_set_to) (defBody s_set_to) (defScope s_set_to) .none kV26 dc26 pm26 an26 cd26 ct26), sl26⟩) (c26 : PySem.W.codeIn K cd26 "set_to" = true) (k26 : PySem.W.keepIn K (.ref f26) = true)
    (a27 : PySem.W.nsIn K mainGlobals "_begin_deeds" = some (some (.ref f27))) (l27 : K.lookup f27 = some ⟨oc27, od27, .func (PySem.W.fnOf "_begin_deeds" "_begin_deeds" (defArgs s__begin_deeds) (defBody s__begin_deeds) (defScope s__begin_deeds) .none kV27 dc27 pm27 an27 cd27 ct27), sl27⟩) (c27 : PySem.W.codeIn K cd27 "_begin_deeds" = true) (k27 : PySem.W.keepIn K (.ref f27) = true)
    (a28 : PySem.W.nsIn K mainGlobals "_end_deeds" = some (some (.ref f28))) (l28 : K.lookup f28 = some ⟨oc28, od28, .func (PySem.W.fnOf "_end_deeds" "_end_deeds" (defArgs s__end_deeds) (defBody s__end_deeds) (defScope s__end_deeds) .none kV28 dc28 pm28 an28 cd28 ct28), sl28⟩) (c28 : PySem.W.codeIn K cd28 "_end_deeds" = true) (k28 : PySem.W.keepIn K (.ref f28) = true)
    (a29 : PySem.W.nsIn K mainGlobals "_rebuild_deeds" = some (some (.ref f29))) (l29 : K.lookup f29 = some ⟨oc29, od29, .func (PySem.W.fnOf "_rebuild_deeds" "_rebuild_deeds" (defArgs s__rebuild_deeds) (defBody s__rebuild_deeds) (defScope s__rebuild_deeds) .none kV29 dc29 pm29 an29 cd29 ct29), sl29⟩) (c29 : PySem.W.codeIn K cd29 "_rebuild_deeds" = true) (k29 : PySem.W.keepIn K (.ref f29) = true)
    (a30 : PySem.W.nsIn K mainGlobals "stripe_machine" = some (some (.ref f30))) (l30 : K.lookup f30 = some ⟨oc30, od30, .func (PySem.W.fnOf "stripe_machine" "stripe_machine" (defArgs s_stripe_machine) (defBody s_stripe_machine) (defScope s_stripe_machine) .none kV30 dc30 pm30 an30 cd30 ct30), sl30⟩) (c30 : PySem.W.codeIn K cd30 "stripe_machine" = true) (k30 : PySem.W.keepIn K (.ref f30) = true)
    (a31 : PySem.W.nsIn K mainGlobals "law" = some (some (.ref f31))) (l31 : K.lookup f31 = some ⟨oc31, od31, .func (PySem.W.fnOf "law" "law" (defArgs s_law) (defBody s_law) (defScope s_law) .none kV31 dc31 pm31 an31 cd31 ct31), sl31⟩) (c31 : PySem.W.codeIn K cd31 "law" = true) (k31 : PySem.W.keepIn K (.ref f31) = true)
    (gP_WreckError : PySem.W.nsIn K mainGlobals "WreckError" = some (some (.ref C_WreckError)))
    (xP_WreckError : PySem.W.excIn K C_WreckError [.type "ValueError", .type "Exception", .type "BaseException", .type "object"] "ValueError.__new__" = true)
    (kP_WreckError : PySem.W.keepIn K (.ref C_WreckError) = true)
    (bP_WreckError : PySem.W.subIn K (.ref C_WreckError) (.type "BaseException") = some true)
    (tP_WreckError : PySem.W.typeIn K (.ref C_WreckError) = some (.type "type"))
    (iP_WreckError : PySem.W.isClsIn K C_WreckError = true)
    (sP_WreckError : PySem.W.subIn K (.ref C_WreckError) (.ref C_WreckError) = some true)
    (gP_InvalidMachine : PySem.W.nsIn K mainGlobals "InvalidMachine" = some (some (.ref C_InvalidMachine)))
    (xP_InvalidMachine : PySem.W.excIn K C_InvalidMachine [.type "ValueError", .type "Exception", .type "BaseException", .type "object"] "ValueError.__new__" = true)
    (kP_InvalidMachine : PySem.W.keepIn K (.ref C_InvalidMachine) = true)
    (bP_InvalidMachine : PySem.W.subIn K (.ref C_InvalidMachine) (.type "BaseException") = some true)
    (tP_InvalidMachine : PySem.W.typeIn K (.ref C_InvalidMachine) = some (.type "type"))
    (iP_InvalidMachine : PySem.W.isClsIn K C_InvalidMachine = true)
    (sP_InvalidMachine : PySem.W.subIn K (.ref C_InvalidMachine) (.ref C_InvalidMachine) = some true)
    (gP_InvalidDisk : PySem.W.nsIn K mainGlobals "InvalidDisk" = some (some (.ref C_InvalidDisk)))
    (xP_InvalidDisk : PySem.W.excIn K C_InvalidDisk [.type "ValueError", .type "Exception", .type "BaseException", .type "object"] "ValueError.__new__" = true)
    (kP_InvalidDisk : PySem.W.keepIn K (.ref C_InvalidDisk) = true)
    (bP_InvalidDisk : PySem.W.subIn K (.ref C_InvalidDisk) (.type "BaseException") = some true)
    (tP_InvalidDisk : PySem.W.typeIn K (.ref C_InvalidDisk) = some (.type "type"))
    (iP_InvalidDisk : PySem.W.isClsIn K C_InvalidDisk = true)
    (sP_InvalidDisk : PySem.W.subIn K (.ref C_InvalidDisk) (.ref C_InvalidDisk) = some true)
    (gP_InvalidSketch : PySem.W.nsIn K mainGlobals "InvalidSketch" = some (some (.ref C_InvalidSketch)))
    (xP_InvalidSketch : PySem.W.excIn K C_InvalidSketch [.type "ValueError", .type "Exception", .type "BaseException", .type "object"] "ValueError.__new__" = true)
    (kP_InvalidSketch : PySem.W.keepIn K (.ref C_InvalidSketch) = true)
    (bP_InvalidSketch : PySem.W.subIn K (.ref C_InvalidSketch) (.type "BaseException") = some true)
    (tP_InvalidSketch : PySem.W.typeIn K (.ref C_InvalidSketch) = some (.type "type"))
    (iP_InvalidSketch : PySem.W.isClsIn K C_InvalidSketch = true)
    (sP_InvalidSketch : PySem.W.subIn K (.ref C_InvalidSketch) (.ref C_InvalidSketch) = some true)
    (gP_NoSuchDeed : PySem.W.nsIn K mainGlobals "NoSuchDeed" = some (some (.ref C_NoSuchDeed)))
    (xP_NoSuchDeed : PySem.W.excIn K C_NoSuchDeed [.type "ValueError", .type "Exception", .type "BaseException", .type "object"] "ValueError.__new__" = true)
    (kP_NoSuchDeed : PySem.W.keepIn K (.ref C_NoSuchDeed) = true)
    (bP_NoSuchDeed : PySem.W.subIn K (.ref C_NoSuchDeed) (.type "BaseException") = some true)
    (tP_NoSuchDeed : PySem.W.typeIn K (.ref C_NoSuchDeed) = some (.type "type"))
    (iP_NoSuchDeed : PySem.W.isClsIn K C_NoSuchDeed = true)
    (sP_NoSuchDeed : PySem.W.subIn K (.ref C_NoSuchDeed) (.ref C_NoSuchDeed) = some true)
    (gP_CannotDo : PySem.W.nsIn K mainGlobals "CannotDo" = some (some (.ref C_CannotDo)))
    (kP_CannotDo : PySem.W.keepIn K (.ref C_CannotDo) = true)
    (bP_CannotDo : PySem.W.subIn K (.ref C_CannotDo) (.type "BaseException") = some true)
    (tP_CannotDo : PySem.W.typeIn K (.ref C_CannotDo) = some (.type "type"))
    (iP_CannotDo : PySem.W.isClsIn K C_CannotDo = true)
    (sP_CannotDo : PySem.W.subIn K (.ref C_CannotDo) (.ref C_CannotDo) = some true)
    (qP_CannotDo : PySem.W.excInitIn K C_CannotDo [.type "ValueError", .type "Exception", .type "BaseException", .type "object"] "ValueError.__new__" = true)
    (hP_CannotDo : PySem.W.hasDictIn K C_CannotDo = true)
    (saP_CannotDo : PySem.W.findIn K (.ref C_CannotDo) "__setattr__" = some (some (.builtin "object.__setattr__")))
    (gaP_CannotDo : PySem.W.findIn K (.ref C_CannotDo) "__getattribute__" = some (some (.builtin "BaseException.__getattribute__")))
    (ggP_CannotDo : PySem.W.findIn K (.ref C_CannotDo) "__getattr__" = some none)
    (noP_CannotDo : PySem.W.findIn K (.ref C_CannotDo) "position" = some none)
    (iiP_CannotDo : PySem.W.findIn K (.ref C_CannotDo) "__init__" = some (some (.ref I_CannotDo)))
    (itP_CannotDo : PySem.W.typeIn K (.ref I_CannotDo) = some (.type "function"))
    (liP_CannotDo : K.lookup I_CannotDo = some ⟨oc_CannotDo, od_CannotDo, .func (PySem.W.ksFn "__init__" "CannotDo.__init__" (defArgs (inClass (top 10) 0)) (defBody (inClass (top 10) 0)) (defScope (inClass (top 10) 0)) .none kV_CannotDo dc_CannotDo pm_CannotDo an_CannotDo (.ref cda_CannotDo) ct_CannotDo cc_CannotDo), sl_CannotDo⟩)
    (cdP_CannotDo : PySem.W.codeIn K (.ref cda_CannotDo) "CannotDo.__init__" = true)
    (ccP_CannotDo : K.lookup cda_CannotDo = some ⟨ccl_CannotDo, cdd_CannotDo, .fields vs_CannotDo, ccs_CannotDo⟩)
    (vsP_CannotDo : vs_CannotDo[2]? = some (.str file_CannotDo tf_CannotDo))
    (fiP_CannotDo : ((P.main.file : Str) == file_CannotDo) = true)
    (ceP_CannotDo : K.lookup cc_CannotDo = some ⟨cl_CannotDo, cld_CannotDo, .cell (some (.ref C_CannotDo)), csl_CannotDo⟩)
    (suP_CannotDo : PySem.W.ks_superIn K C_CannotDo C_CannotDo "__init__" = some (some (.builtin "ValueError.__init__")))
    (veP_CannotDo : PySem.W.subIn K (.ref C_CannotDo) (.type "ValueError") = some true)
    (smP_CannotDo : PySem.W.mroIn K C_CannotDo (.ref C_CannotDo) = some true)
    (gP_InvalidForm : PySem.W.nsIn K mainGlobals "InvalidForm" = some (some (.ref C_InvalidForm)))
    (xP_InvalidForm : PySem.W.excIn K C_InvalidForm [.type "ValueError", .type "Exception", .type "BaseException", .type "object"] "ValueError.__new__" = true)
    (kP_InvalidForm : PySem.W.keepIn K (.ref C_InvalidForm) = true)
    (bP_InvalidForm : PySem.W.subIn K (.ref C_InvalidForm) (.type "BaseException") = some true)
    (tP_InvalidForm : PySem.W.typeIn K (.ref C_InvalidForm) = some (.type "type"))
    (iP_InvalidForm : PySem.W.isClsIn K C_InvalidForm = true)
    (sP_InvalidForm : PySem.W.subIn K (.ref C_InvalidForm) (.ref C_InvalidForm) = some true)
    (gP_InvalidFile : PySem.W.nsIn K mainGlobals "InvalidFile" = some (some (.ref C_InvalidFile)))
    (xP_InvalidFile : PySem.W.excIn K C_InvalidFile [.type "ValueError", .type "Exception", .type "BaseException", .type "object"] "ValueError.__new__" = true)
    (kP_InvalidFile : PySem.W.keepIn K (.ref C_InvalidFile) = true)
    (bP_InvalidFile : PySem.W.subIn K (.ref C_InvalidFile) (.type "BaseException") = some true)
    (tP_InvalidFile : PySem.W.typeIn K (.ref C_InvalidFile) = some (.type "type"))
    (iP_InvalidFile : PySem.W.isClsIn K C_InvalidFile = true)
    (sP_InvalidFile : PySem.W.subIn K (.ref C_InvalidFile) (.ref C_InvalidFile) = some true)
    (gP_NoRoom : PySem.W.nsIn K mainGlobals "NoRoom" = some (some (.ref C_NoRoom)))
    (xP_NoRoom : PySem.W.excIn K C_NoRoom [.type "ValueError", .type "Exception", .type "BaseException", .type "object"] "ValueError.__new__" = true)
    (kP_NoRoom : PySem.W.keepIn K (.ref C_NoRoom) = true)
    (bP_NoRoom : PySem.W.subIn K (.ref C_NoRoom) (.type "BaseException") = some true)
    (tP_NoRoom : PySem.W.typeIn K (.ref C_NoRoom) = some (.type "type"))
    (iP_NoRoom : PySem.W.isClsIn K C_NoRoom = true)
    (sP_NoRoom : PySem.W.subIn K (.ref C_NoRoom) (.ref C_NoRoom) = some true)
    (z_super : PySem.W.nsIn K mainGlobals "super" = some none)
    (z_anyT : PySem.W.nsIn K cStatics "thirdparty.any" = some none)
    (z_top : (P.main.scope.names.lookup ("super" : Str)).isSome = false)
    (sis_WreckError_InvalidFile : PySem.W.subIn K (.ref C_WreckError) (.ref C_InvalidFile) = some false)
    (sis_InvalidMachine_InvalidFile : PySem.W.subIn K (.ref C_InvalidMachine) (.ref C_InvalidFile) = some false)
    (sis_InvalidDisk_InvalidFile : PySem.W.subIn K (.ref C_InvalidDisk) (.ref C_InvalidFile) = some false)
    (sis_InvalidSketch_InvalidFile : PySem.W.subIn K (.ref C_InvalidSketch) (.ref C_InvalidFile) = some false)
    (sis_NoSuchDeed_InvalidFile : PySem.W.subIn K (.ref C_NoSuchDeed) (.ref C_InvalidFile) = some false)
    (sis_CannotDo_InvalidFile : PySem.W.subIn K (.ref C_CannotDo) (.ref C_InvalidFile) = some false)
    (sis_InvalidForm_InvalidFile : PySem.W.subIn K (.ref C_InvalidForm) (.ref C_InvalidFile) = some false)
    (sis_InvalidFile_InvalidFile : PySem.W.subIn K (.ref C_InvalidFile) (.ref C_InvalidFile) = some true)
    (sis_NoRoom_InvalidFile : PySem.W.subIn K (.ref C_NoRoom) (.ref C_InvalidFile) = some false)
    (sis_WreckError_NoRoom : PySem.W.subIn K (.ref C_WreckError) (.ref C_NoRoom) = some false)
    (sis_InvalidMachine_NoRoom : PySem.W.subIn K (.ref C_InvalidMachine) (.ref C_NoRoom) = some false)
    (sis_InvalidDisk_NoRoom : PySem.W.subIn K (.ref C_InvalidDisk) (.ref C_NoRoom) = some false)
    (sis_InvalidSketch_NoRoom : PySem.W.subIn K (.ref C_InvalidSketch) (.ref C_NoRoom) = some false)
    (sis_NoSuchDeed_NoRoom : PySem.W.subIn K (.ref C_NoSuchDeed) (.ref C_NoRoom) = some false)
    (sis_CannotDo_NoRoom : PySem.W.subIn K (.ref C_CannotDo) (.ref C_NoRoom) = some false)
    (sis_InvalidForm_NoRoom : PySem.W.subIn K (.ref C_InvalidForm) (.ref C_NoRoom) = some false)
    (sis_InvalidFile_NoRoom : PySem.W.subIn K (.ref C_InvalidFile) (.ref C_NoRoom) = some false)
    (sis_NoRoom_NoRoom : PySem.W.subIn K (.ref C_NoRoom) (.ref C_NoRoom) = some true)
    (sis_WreckError_InvalidForm : PySem.W.subIn K (.ref C_WreckError) (.ref C_InvalidForm) = some false)
    (sis_InvalidMachine_InvalidForm : PySem.W.subIn K (.ref C_InvalidMachine) (.ref C_InvalidForm) = some false)
    (sis_InvalidDisk_InvalidForm : PySem.W.subIn K (.ref C_InvalidDisk) (.ref C_InvalidForm) = some false)
    (sis_InvalidSketch_InvalidForm : PySem.W.subIn K (.ref C_InvalidSketch) (.ref C_InvalidForm) = some false)
    (sis_NoSuchDeed_InvalidForm : PySem.W.subIn K (.ref C_NoSuchDeed) (.ref C_InvalidForm) = some false)
    (sis_CannotDo_InvalidForm : PySem.W.subIn K (.ref C_CannotDo) (.ref C_InvalidForm) = some false)
    (sis_InvalidForm_InvalidForm : PySem.W.subIn K (.ref C_InvalidForm) (.ref C_InvalidForm) = some true)
    (sis_InvalidFile_InvalidForm : PySem.W.subIn K (.ref C_InvalidFile) (.ref C_InvalidForm) = some false)
    (sis_NoRoom_InvalidForm : PySem.W.subIn K (.ref C_NoRoom) (.ref C_InvalidForm) = some false)
    (ig_WreckError : PySem.W.findIn K (.ref C_WreckError) "__getattribute__" = some (some (.builtin "BaseException.__getattribute__")))
    (ik_WreckError : PySem.W.findIn K (.ref C_WreckError) "__getattr__" = some none)
    (id_WreckError : PySem.W.hasDictIn K C_WreckError = true)
    (ia_WreckError : PySem.W.findIn K (.ref C_WreckError) "__class__" = some (some (.builtin "object.__class__")))
    (im_WreckError : PySem.W.mroIn K C_WreckError (.type "object") = some true)
    (ig_InvalidMachine : PySem.W.findIn K (.ref C_InvalidMachine) "__getattribute__" = some (some (.builtin "BaseException.__getattribute__")))
    (ik_InvalidMachine : PySem.W.findIn K (.ref C_InvalidMachine) "__getattr__" = some none)
    (id_InvalidMachine : PySem.W.hasDictIn K C_InvalidMachine = true)
    (ia_InvalidMachine : PySem.W.findIn K (.ref C_InvalidMachine) "__class__" = some (some (.builtin "object.__class__")))
    (im_InvalidMachine : PySem.W.mroIn K C_InvalidMachine (.type "object") = some true)
    (ig_InvalidDisk : PySem.W.findIn K (.ref C_InvalidDisk) "__getattribute__" = some (some (.builtin "BaseException.__getattribute__")))
    (ik_InvalidDisk : PySem.W.findIn K (.ref C_InvalidDisk) "__getattr__" = some none)
    (id_InvalidDisk : PySem.W.hasDictIn K C_InvalidDisk = true)
    (ia_InvalidDisk : PySem.W.findIn K (.ref C_InvalidDisk) "__class__" = some (some (.builtin "object.__class__")))
    (im_InvalidDisk : PySem.W.mroIn K C_InvalidDisk (.type "object") = some true)
    (ig_InvalidSketch : PySem.W.findIn K (.ref C_InvalidSketch) "__getattribute__" = some (some (.builtin "BaseException.__getattribute__")))
    (ik_InvalidSketch : PySem.W.findIn K (.ref C_InvalidSketch) "__getattr__" = some none)
    (id_InvalidSketch : PySem.W.hasDictIn K C_InvalidSketch = true)
    (ia_InvalidSketch : PySem.W.findIn K (.ref C_InvalidSketch) "__class__" = some (some (.builtin "object.__class__")))
    (im_InvalidSketch : PySem.W.mroIn K C_InvalidSketch (.type "object") = some true)
    (ig_NoSuchDeed : PySem.W.findIn K (.ref C_NoSuchDeed) "__getattribute__" = some (some (.builtin "BaseException.__getattribute__")))
    (ik_NoSuchDeed : PySem.W.findIn K (.ref C_NoSuchDeed) "__getattr__" = some none)
    (id_NoSuchDeed : PySem.W.hasDictIn K C_NoSuchDeed = true)
    (ia_NoSuchDeed : PySem.W.findIn K (.ref C_NoSuchDeed) "__class__" = some (some (.builtin "object.__class__")))
    (im_NoSuchDeed : PySem.W.mroIn K C_NoSuchDeed (.type "object") = some true)
    (ig_CannotDo : PySem.W.findIn K (.ref C_CannotDo) "__getattribute__" = some (some (.builtin "BaseException.__getattribute__")))
    (ik_CannotDo : PySem.W.findIn K (.ref C_CannotDo) "__getattr__" = some none)
    (id_CannotDo : PySem.W.hasDictIn K C_CannotDo = true)
    (ia_CannotDo : PySem.W.findIn K (.ref C_CannotDo) "__class__" = some (some (.builtin "object.__class__")))
    (im_CannotDo : PySem.W.mroIn K C_CannotDo (.type "object") = some true)
    (ig_InvalidForm : PySem.W.findIn K (.ref C_InvalidForm) "__getattribute__" = some (some (.builtin "BaseException.__getattribute__")))
    (ik_InvalidForm : PySem.W.findIn K (.ref C_InvalidForm) "__getattr__" = some none)
    (id_InvalidForm : PySem.W.hasDictIn K C_InvalidForm = true)
    (ia_InvalidForm : PySem.W.findIn K (.ref C_InvalidForm) "__class__" = some (some (.builtin "object.__class__")))
    (im_InvalidForm : PySem.W.mroIn K C_InvalidForm (.type "object") = some true)
    (ig_InvalidFile : PySem.W.findIn K (.ref C_InvalidFile) "__getattribute__" = some (some (.builtin "BaseException.__getattribute__")))
    (ik_InvalidFile : PySem.W.findIn K (.ref C_InvalidFile) "__getattr__" = some none)
    (id_InvalidFile : PySem.W.hasDictIn K C_InvalidFile = true)
    (ia_InvalidFile : PySem.W.findIn K (.ref C_InvalidFile) "__class__" = some (some (.builtin "object.__class__")))
    (im_InvalidFile : PySem.W.mroIn K C_InvalidFile (.type "object") = some true)
    (ig_NoRoom : PySem.W.findIn K (.ref C_NoRoom) "__getattribute__" = some (some (.builtin "BaseException.__getattribute__")))
    (ik_NoRoom : PySem.W.findIn K (.ref C_NoRoom) "__getattr__" = some none)
    (id_NoRoom : PySem.W.hasDictIn K C_NoRoom = true)
    (ia_NoRoom : PySem.W.findIn K (.ref C_NoRoom) "__class__" = some (some (.builtin "object.__class__")))
    (im_NoRoom : PySem.W.mroIn K C_NoRoom (.type "object") = some true)
    (ixn : PySem.W.specialIn K (.builtin "object.__class__") "__get__" = some (some (.builtin "getset_descriptor.__get__")))
    (ixt : PySem.W.takesIn K (.builtin "object.__class__") = some true)
    (sub_WreckError_WreckError : PySem.W.subIn K (.ref C_WreckError) (.ref C_WreckError) = some true)
    (sub_InvalidMachine_WreckError : PySem.W.subIn K (.ref C_InvalidMachine) (.ref C_WreckError) = some true)
    (sub_InvalidDisk_WreckError : PySem.W.subIn K (.ref C_InvalidDisk) (.ref C_WreckError) = some true)
    (sub_InvalidSketch_WreckError : PySem.W.subIn K (.ref C_InvalidSketch) (.ref C_WreckError) = some true)
    (sub_NoSuchDeed_WreckError : PySem.W.subIn K (.ref C_NoSuchDeed) (.ref C_WreckError) = some true)
    (sub_CannotDo_WreckError : PySem.W.subIn K (.ref C_CannotDo) (.ref C_WreckError) = some true)
    (sub_InvalidForm_WreckError : PySem.W.subIn K (.ref C_InvalidForm) (.ref C_WreckError) = some true)
    (sub_InvalidFile_WreckError : PySem.W.subIn K (.ref C_InvalidFile) (.ref C_WreckError) = some true)
    (sub_NoRoom_WreckError : PySem.W.subIn K (.ref C_NoRoom) (.ref C_WreckError) = some true)
    (z_all : PySem.W.nsIn K mainGlobals "all" = some none)
    (z_enumerate : PySem.W.nsIn K mainGlobals "enumerate" = some none)
    (z_int : PySem.W.nsIn K mainGlobals "int" = some none)
    (z_isinstance : PySem.W.nsIn K mainGlobals "isinstance" = some none)
    (z_len : PySem.W.nsIn K mainGlobals "len" = some none)
    (z_list : PySem.W.nsIn K mainGlobals "list" = some none)
    (z_range : PySem.W.nsIn K mainGlobals "range" = some none)
    (z_set : PySem.W.nsIn K mainGlobals "set" = some none)
    (z_str : PySem.W.nsIn K mainGlobals "str" = some none)
    (z_tuple : PySem.W.nsIn K mainGlobals "tuple" = some none)
    (z_zip : PySem.W.nsIn K mainGlobals "zip" = some none)
    (v_MOST_CELLS : PySem.W.nsIn K mainGlobals "MOST_CELLS" = some (some (.int 24 t_MOST_CELLS)))
    (v_MOST_VALUES : PySem.W.nsIn K mainGlobals "MOST_VALUES" = some (some (.int 16 t_MOST_VALUES)))
    (v_MOST_DEEDS : PySem.W.nsIn K mainGlobals "MOST_DEEDS" = some (some (.int 400 t_MOST_DEEDS)))
    (v_LONGEST_NAME : PySem.W.nsIn K mainGlobals "LONGEST_NAME" = some (some (.int 12 t_LONGEST_NAME)))
    (v_LOWER : PySem.W.nsIn K mainGlobals "LOWER" = some (some (.str "abcdefghijklmnopqrstuvwxyz" t_LOWER)))
    (v_DIGITS : PySem.W.nsIn K mainGlobals "DIGITS" = some (some (.str "0123456789" t_DIGITS)))
    (v_PARITY : PySem.W.nsIn K mainGlobals "PARITY" = some (some (.int 2 t_PARITY)))
    (v_WORK : PySem.W.nsIn K mainGlobals "WORK" = some (some (.int 3 t_WORK)))
    (v_NO_WORK : PySem.W.nsIn K mainGlobals "NO_WORK" = some (some (.int 0 t_NO_WORK)))
    (v_SOME_WORK : PySem.W.nsIn K mainGlobals "SOME_WORK" = some (some (.int 6 t_SOME_WORK)))
    : ∃ fd : FuncData, (∀ (s : Shared) (v : Value), BindsTo s fd ⟨[v], []⟩ [("script", v)]) ∧ ∀ base : Heap, K.In base → base.Ns mainGlobals mg → FnOk P w K mg base (L2.CX P w) 6 fa fd ["script"] (spD K [] false c_law) := by
  have T : Txt K mg P w C_WreckError C_InvalidMachine C_InvalidDisk C_InvalidSketch C_NoSuchDeed C_CannotDo C_InvalidForm C_InvalidFile C_NoRoom C_Machine C_StripeForm := ⟨⟨PySem.W.mg_of X G gP_CannotDo, oex_of qP_CannotDo hP_CannotDo saP_CannotDo bP_CannotDo tP_CannotDo kP_CannotDo, ⟨I_CannotDo, _, "position", iiP_CannotDo, itP_CannotDo, fun base => sup_ok liP_CannotDo cdP_CannotDo ccP_CannotDo vsP_CannotDo fiP_CannotDo ceP_CannotDo (PySem.W.mg_none_of X G z_super) z_top z_anyT suP_CannotDo veP_CannotDo smP_CannotDo (oex_of qP_CannotDo hP_CannotDo saP_CannotDo bP_CannotDo tP_CannotDo kP_CannotDo) noP_CannotDo rfl rfl (by decide) (by decide) (by decide) (by decide) (by decide) (by decide) (fun _ => ⟨_, rfl⟩), .all fun us hl => match us, hl with | [_, _], _ => rfl⟩, exm_of bP_CannotDo iP_CannotDo tP_CannotDo sP_CannotDo, ⟨gaP_CannotDo, ggP_CannotDo, bP_CannotDo, hP_CannotDo⟩, noP_CannotDo⟩, ⟨PySem.W.mg_of X G gP_WreckError, xP_WreckError, kP_WreckError, bP_WreckError, tP_WreckError, exm_of bP_WreckError iP_WreckError tP_WreckError sP_WreckError⟩, ⟨PySem.W.mg_of X G gP_InvalidMachine, xP_InvalidMachine, kP_InvalidMachine, bP_InvalidMachine, tP_InvalidMachine, exm_of bP_InvalidMachine iP_InvalidMachine tP_InvalidMachine sP_InvalidMachine⟩, ⟨PySem.W.mg_of X G gP_InvalidDisk, xP_InvalidDisk, kP_InvalidDisk, bP_InvalidDisk, tP_InvalidDisk, exm_of bP_InvalidDisk iP_InvalidDisk tP_InvalidDisk sP_InvalidDisk⟩, ⟨PySem.W.mg_of X G gP_InvalidSketch, xP_InvalidSketch, kP_InvalidSketch, bP_InvalidSketch, tP_InvalidSketch, exm_of bP_InvalidSketch iP_InvalidSketch tP_InvalidSketch sP_InvalidSketch⟩, ⟨PySem.W.mg_of X G gP_NoSuchDeed, xP_NoSuchDeed, kP_NoSuchDeed, bP_NoSuchDeed, tP_NoSuchDeed, exm_of bP_NoSuchDeed iP_NoSuchDeed tP_NoSuchDeed sP_NoSuchDeed⟩, ⟨PySem.W.mg_of X G gP_InvalidForm, xP_InvalidForm, kP_InvalidForm, bP_InvalidForm, tP_InvalidForm, exm_of bP_InvalidForm iP_InvalidForm tP_InvalidForm sP_InvalidForm⟩, ⟨PySem.W.mg_of X G gP_InvalidFile, xP_InvalidFile, kP_InvalidFile, bP_InvalidFile, tP_InvalidFile, exm_of bP_InvalidFile iP_InvalidFile tP_InvalidFile sP_InvalidFile⟩, ⟨PySem.W.mg_of X G gP_NoRoom, xP_NoRoom, kP_NoRoom, bP_NoRoom, tP_NoRoom, exm_of bP_NoRoom iP_NoRoom tP_NoRoom sP_NoRoom⟩, exm2_of bP_WreckError iP_WreckError tP_WreckError sub_WreckError_WreckError, exm2_of bP_WreckError iP_WreckError tP_WreckError sub_InvalidMachine_WreckError, exm2_of bP_WreckError iP_WreckError tP_WreckError sub_InvalidDisk_WreckError, exm2_of bP_WreckError iP_WreckError tP_WreckError sub_InvalidSketch_WreckError, exm2_of bP_WreckError iP_WreckError tP_WreckError sub_NoSuchDeed_WreckError, exm2_of bP_WreckError iP_WreckError tP_WreckError sub_CannotDo_WreckError, exm2_of bP_WreckError iP_WreckError tP_WreckError sub_InvalidForm_WreckError, exm2_of bP_WreckError iP_WreckError tP_WreckError sub_InvalidFile_WreckError, exm2_of bP_WreckError iP_WreckError tP_WreckError sub_NoRoom_WreckError, kit1_of iP_InvalidFile tP_InvalidFile sis_WreckError_InvalidFile sP_WreckError, kit1_of iP_InvalidFile tP_InvalidFile sis_InvalidMachine_InvalidFile sP_InvalidMachine, kit1_of iP_InvalidFile tP_InvalidFile sis_InvalidDisk_InvalidFile sP_InvalidDisk, kit1_of iP_InvalidFile tP_InvalidFile sis_InvalidSketch_InvalidFile sP_InvalidSketch, kit1_of iP_InvalidFile tP_InvalidFile sis_NoSuchDeed_InvalidFile sP_NoSuchDeed, kit1_of iP_InvalidFile tP_InvalidFile sis_CannotDo_InvalidFile sP_CannotDo, kit1_of iP_InvalidFile tP_InvalidFile sis_InvalidForm_InvalidFile sP_InvalidForm, kit1_of iP_InvalidFile tP_InvalidFile sis_InvalidFile_InvalidFile sP_InvalidFile, kit1_of iP_InvalidFile tP_InvalidFile sis_NoRoom_InvalidFile sP_NoRoom, kit1_of iP_NoRoom tP_NoRoom sis_WreckError_NoRoom sP_WreckError, kit1_of iP_NoRoom tP_NoRoom sis_InvalidMachine_NoRoom sP_InvalidMachine, kit1_of iP_NoRoom tP_NoRoom sis_InvalidDisk_NoRoom sP_InvalidDisk, kit1_of iP_NoRoom tP_NoRoom sis_InvalidSketch_NoRoom sP_InvalidSketch, kit1_of iP_NoRoom tP_NoRoom sis_NoSuchDeed_NoRoom sP_NoSuchDeed, kit1_of iP_NoRoom tP_NoRoom sis_CannotDo_NoRoom sP_CannotDo, kit1_of iP_NoRoom tP_NoRoom sis_InvalidForm_NoRoom sP_InvalidForm, kit1_of iP_NoRoom tP_NoRoom sis_InvalidFile_NoRoom sP_InvalidFile, kit1_of iP_NoRoom tP_NoRoom sis_NoRoom_NoRoom sP_NoRoom, kit1_of iP_InvalidForm tP_InvalidForm sis_WreckError_InvalidForm sP_WreckError, kit1_of iP_InvalidForm tP_InvalidForm sis_InvalidMachine_InvalidForm sP_InvalidMachine, kit1_of iP_InvalidForm tP_InvalidForm sis_InvalidDisk_InvalidForm sP_InvalidDisk, kit1_of iP_InvalidForm tP_InvalidForm sis_InvalidSketch_InvalidForm sP_InvalidSketch, kit1_of iP_InvalidForm tP_InvalidForm sis_NoSuchDeed_InvalidForm sP_NoSuchDeed, kit1_of iP_InvalidForm tP_InvalidForm sis_CannotDo_InvalidForm sP_CannotDo, kit1_of iP_InvalidForm tP_InvalidForm sis_InvalidForm_InvalidForm sP_InvalidForm, kit1_of iP_InvalidForm tP_InvalidForm sis_InvalidFile_InvalidForm sP_InvalidFile, kit1_of iP_InvalidForm tP_InvalidForm sis_NoRoom_InvalidForm sP_NoRoom, ⟨ig_WreckError, ik_WreckError, bP_WreckError, id_WreckError, ia_WreckError, ixn, ixt, im_WreckError⟩, ⟨ig_InvalidMachine, ik_InvalidMachine, bP_InvalidMachine, id_InvalidMachine, ia_InvalidMachine, ixn, ixt, im_InvalidMachine⟩, ⟨ig_InvalidDisk, ik_InvalidDisk, bP_InvalidDisk, id_InvalidDisk, ia_InvalidDisk, ixn, ixt, im_InvalidDisk⟩, ⟨ig_InvalidSketch, ik_InvalidSketch, bP_InvalidSketch, id_InvalidSketch, ia_InvalidSketch, ixn, ixt, im_InvalidSketch⟩, ⟨ig_NoSuchDeed, ik_NoSuchDeed, bP_NoSuchDeed, id_NoSuchDeed, ia_NoSuchDeed, ixn, ixt, im_NoSuchDeed⟩, ⟨ig_CannotDo, ik_CannotDo, bP_CannotDo, id_CannotDo, ia_CannotDo, ixn, ixt, im_CannotDo⟩, ⟨ig_InvalidForm, ik_InvalidForm, bP_InvalidForm, id_InvalidForm, ia_InvalidForm, ixn, ixt, im_InvalidForm⟩, ⟨ig_InvalidFile, ik_InvalidFile, bP_InvalidFile, id_InvalidFile, ia_InvalidFile, ixn, ixt, im_InvalidFile⟩, ⟨ig_NoRoom, ik_NoRoom, bP_NoRoom, id_NoRoom, ia_NoRoom, ixn, ixt, im_NoRoom⟩, ⟨pg_Machine, hd_Machine, po_Machine, sa_Machine⟩, PySem.W.mg_of X G gC_Machine, ⟨pg_StripeForm, hd_StripeForm, po_StripeForm, sa_StripeForm⟩, PySem.W.mg_of X G gC_StripeForm, (fun C h => by rcases h with rfl <;> first | exact ⟨⟨pg_Machine, hd_Machine, po_Machine, sa_Machine⟩, nf_cells_Machine⟩), (fun C h => by rcases h with rfl <;> first | exact ⟨⟨pg_Machine, hd_Machine, po_Machine, sa_Machine⟩, nf_deeds_Machine⟩), (fun C h => by rcases h with rfl <;> first | exact ⟨⟨pg_Machine, hd_Machine, po_Machine, sa_Machine⟩, nf_first_Machine⟩), (fun C h => by rcases h with rfl <;> first | exact ⟨⟨pg_StripeForm, hd_StripeForm, po_StripeForm, sa_StripeForm⟩, nf_alphabet_StripeForm⟩), PySem.W.mg_none_of X G z_all, PySem.W.mg_none_of X G z_enumerate, PySem.W.mg_none_of X G z_int, PySem.W.mg_none_of X G z_isinstance, PySem.W.mg_none_of X G z_len, PySem.W.mg_none_of X G z_list, PySem.W.mg_none_of X G z_range, PySem.W.mg_none_of X G z_set, PySem.W.mg_none_of X G z_str, PySem.W.mg_none_of X G z_tuple, PySem.W.mg_none_of X G z_zip, ⟨_, PySem.W.mg_of X G v_MOST_CELLS⟩, ⟨_, PySem.W.mg_of X G v_MOST_VALUES⟩, ⟨_, PySem.W.mg_of X G v_MOST_DEEDS⟩, ⟨_, PySem.W.mg_of X G v_LONGEST_NAME⟩, ⟨_, PySem.W.mg_of X G v_LOWER⟩, ⟨_, PySem.W.mg_of X G v_DIGITS⟩, ⟨_, PySem.W.mg_of X G v_PARITY⟩, ⟨_, PySem.W.mg_of X G v_WORK⟩, ⟨_, PySem.W.mg_of X G v_NO_WORK⟩, ⟨_, PySem.W.mg_of X G v_SOME_WORK⟩⟩
  have F_check_range : TopFn K mg "check_range" s_check_range ["number", "least", "greatest"] := topFn_mk X G a0 l0 c0 k0 fun _ _ _ _ _ _ us hl => match us, hl with | [_, _, _], _ => rfl
  have F_StripeForm_init : TopMt K "__init__" "StripeForm.__init__" s_StripeForm_init ["self", "alphabet"] f1 := topMt_mk l1 c1 k1 fun _ _ _ _ _ _ us hl => match us, hl with | [_, _], _ => rfl
  have F__law_cell : TopFn K mg "_law_cell" s__law_cell ["script", "k"] := topFn_mk X G a2 l2 c2 k2 fun _ _ _ _ _ _ us hl => match us, hl with | [_, _], _ => rfl
  have F__law_stripe : TopFn K mg "_law_stripe" s__law_stripe ["values", "disk", "name"] := topFn_mk X G a3 l3 c3 k3 fun _ _ _ _ _ _ us hl => match us, hl with | [_, _, _], _ => rfl
  have F__check_number : TopFn K mg "_check_number" s__check_number ["number"] := topFn_mk X G a4 l4 c4 k4 fun _ _ _ _ _ _ us hl => match us, hl with | [_], _ => rfl
  have F_check_value : TopFn K mg "check_value" s_check_value ["form", "value"] := topFn_mk X G a5 l5 c5 k5 fun _ _ _ _ _ _ us hl => match us, hl with | [_, _], _ => rfl
  have F_stripe_begin : TopFn K mg "stripe_begin" s_stripe_begin ["form", "disk", "number", "value"] := topFn_mk X G a6 l6 c6 k6 fun _ _ _ _ _ _ us hl => match us, hl with | [_, _, _, _], _ => rfl
  have F_stripe_end : TopFn K mg "stripe_end" s_stripe_end ["form", "disk"] := topFn_mk X G a7 l7 c7 k7 fun _ _ _ _ _ _ us hl => match us, hl with | [_, _], _ => rfl
  have F_stripe_rebuild : TopFn K mg "stripe_rebuild" s_stripe_rebuild ["form", "disk", "number"] := topFn_mk X G a8 l8 c8 k8 fun _ _ _ _ _ _ us hl => match us, hl with | [_, _, _], _ => rfl
  have F__law_tried : TopFn K mg "_law_tried" s__law_tried ["form", "disk", "question", "number", "value"] := topFn_mk X G a9 l9 c9 k9 fun _ _ _ _ _ _ us hl => match us, hl with | [_, _, _, _, _], _ => rfl
  have F__law_is_right : TopFn K mg "_law_is_right" s__law_is_right ["form", "values", "disk", "value"] := topFn_mk X G a10 l10 c10 k10 fun _ _ _ _ _ _ us hl => match us, hl with | [_, _, _, _], _ => rfl
  have F__law_mix : TopFn K mg "_law_mix" s__law_mix ["cell", "k"] := topFn_mk X G a11 l11 c11 k11 fun _ _ _ _ _ _ us hl => match us, hl with | [_, _], _ => rfl
  have F__law_names : TopFn K mg "_law_names" s__law_names ["values"] := topFn_mk X G a12 l12 c12 k12 fun _ _ _ _ _ _ us hl => match us, hl with | [_], _ => rfl
  have F__changed : TopFn K mg "_changed" s__changed ["machine", "disk", "deed"] := topFn_mk X G a13 l13 c13 k13 fun _ _ _ _ _ _ us hl => match us, hl with | [_, _, _], _ => rfl
  have F__guard_holds : TopFn K mg "_guard_holds" s__guard_holds ["machine", "disk", "deed"] := topFn_mk X G a14 l14 c14 k14 fun _ _ _ _ _ _ us hl => match us, hl with | [_, _, _], _ => rfl
  have F_check_deed : TopFn K mg "check_deed" s_check_deed ["machine", "deed"] := topFn_mk X G a15 l15 c15 k15 fun _ _ _ _ _ _ us hl => match us, hl with | [_, _], _ => rfl
  have F_check_disk : TopFn K mg "check_disk" s_check_disk ["machine", "disk"] := topFn_mk X G a16 l16 c16 k16 fun _ _ _ _ _ _ us hl => match us, hl with | [_, _], _ => rfl
  have F_can_do : TopFn K mg "can_do" s_can_do ["machine", "disk", "deed"] := topFn_mk X G a17 l17 c17 k17 fun _ _ _ _ _ _ us hl => match us, hl with | [_, _, _], _ => rfl
  have F_after : TopFn K mg "after" s_after ["machine", "disk", "deed"] := topFn_mk X G a18 l18 c18 k18 fun _ _ _ _ _ _ us hl => match us, hl with | [_, _, _], _ => rfl
  have F_is_mask : TopFn K mg "is_mask" s_is_mask ["mask", "size"] := topFn_mk X G a19 l19 c19 k19 fun _ _ _ _ _ _ us hl => match us, hl with | [_, _], _ => rfl
  have F_Machine__check_deed : TopMt K "_check_deed" "Machine._check_deed" s_Machine__check_deed ["self", "sizes", "guard", "changes"] f20 := topMt_mk l20 c20 k20 fun _ _ _ _ _ _ us hl => match us, hl with | [_, _, _, _], _ => rfl
  have F_is_name : TopFn K mg "is_name" s_is_name ["text"] := topFn_mk X G a21 l21 c21 k21 fun _ _ _ _ _ _ us hl => match us, hl with | [_], _ => rfl
  have F__check_names : TopFn K mg "_check_names" s__check_names ["names"] := topFn_mk X G a22 l22 c22 k22 fun _ _ _ _ _ _ us hl => match us, hl with | [_], _ => rfl
  have F__check_order : TopFn K mg "_check_order" s__check_order ["pairs", "count"] := topFn_mk X G a23 l23 c23 k23 fun _ _ _ _ _ _ us hl => match us, hl with | [_, _], _ => rfl
  have F_Machine_init : TopMt K "__init__" "Machine.__init__" s_Machine_init ["self", "cells", "deeds", "first"] f24 := topMt_mk l24 c24 k24 fun _ _ _ _ _ _ us hl => match us, hl with | [_, _, _, _], _ => rfl
  have F_one : TopFn K mg "one" s_one ["value"] := topFn_mk X G a25 l25 c25 k25 fun _ _ _ _ _ _ us hl => match us, hl with | [_], _ => rfl
  have F_set_to : TopFn K mg "set_to" s_set_to ["cell", "value"] := topFn_mk X G a26 l26 c26 k26 fun _ _ _ _ _ _ us hl => match us, hl with | [_, _], _ => rfl
  have F__begin_deeds : TopFn K mg "_begin_deeds" s__begin_deeds ["form"] := topFn_mk X G a27 l27 c27 k27 fun _ _ _ _ _ _ us hl => match us, hl with | [_], _ => rfl
  have F__end_deeds : TopFn K mg "_end_deeds" s__end_deeds ["form"] := topFn_mk X G a28 l28 c28 k28 fun _ _ _ _ _ _ us hl => match us, hl with | [_], _ => rfl
  have F__rebuild_deeds : TopFn K mg "_rebuild_deeds" s__rebuild_deeds ["form"] := topFn_mk X G a29 l29 c29 k29 fun _ _ _ _ _ _ us hl => match us, hl with | [_], _ => rfl
  have F_stripe_machine : TopFn K mg "stripe_machine" s_stripe_machine ["form"] := topFn_mk X G a30 l30 c30 k30 fun _ _ _ _ _ _ us hl => match us, hl with | [_], _ => rfl
  have F_law : TopFn K mg "law" s_law ["script"] := topFn_mk X G a31 l31 c31 k31 fun _ _ _ _ _ _ us hl => match us, hl with | [_], _ => rfl
  refine law_fd F_law hfa fun base _ _ => ?_
  have G_check_range := ok_check_range (P := P) (w := w) (base := base) (TB := []) T F_check_range
  have G_StripeForm_init := ok_StripeForm_init (P := P) (w := w) (base := base) (TB := []) T G_check_range ⟨mk_StripeForm, a1, i1, kc_StripeForm⟩ F_StripeForm_init
  have G__law_cell := ok__law_cell (P := P) (w := w) (base := base) (TB := []) T F__law_cell
  have G__law_stripe := ok__law_stripe (P := P) (w := w) (base := base) (TB := []) T F__law_stripe
  have G__check_number := ok__check_number (P := P) (w := w) (base := base) (TB := []) T F__check_number
  have G_check_value := ok_check_value (P := P) (w := w) (base := base) (TB := []) T F_check_value
  have G_stripe_begin := ok_stripe_begin (P := P) (w := w) (base := base) (TB := []) T G__check_number G_check_value F_stripe_begin
  have G_stripe_end := ok_stripe_end (P := P) (w := w) (base := base) (TB := []) T F_stripe_end
  have G_stripe_rebuild := ok_stripe_rebuild (P := P) (w := w) (base := base) (TB := []) T G__check_number F_stripe_rebuild
  have G__law_tried := ok__law_tried (P := P) (w := w) (base := base) (TB := []) T G_stripe_begin G_stripe_end G_stripe_rebuild F__law_tried
  have G__law_is_right := ok__law_is_right (P := P) (w := w) (base := base) (TB := []) T G__law_stripe G__law_tried F__law_is_right
  have G__law_mix := ok__law_mix (P := P) (w := w) (base := base) (TB := []) T F__law_mix
  have G__law_names := ok__law_names (P := P) (w := w) (base := base) (TB := []) T F__law_names
  have G__changed := ok__changed (P := P) (w := w) (base := base) (TB := []) T F__changed
  have G__guard_holds := ok__guard_holds (P := P) (w := w) (base := base) (TB := []) T F__guard_holds
  have G_check_deed := ok_check_deed (P := P) (w := w) (base := base) (TB := []) T F_check_deed
  have G_check_disk := ok_check_disk (P := P) (w := w) (base := base) (TB := []) T F_check_disk
  have G_can_do := ok_can_do (P := P) (w := w) (base := base) (TB := []) T G__guard_holds G_check_deed G_check_disk F_can_do
  have G_after := ok_after (P := P) (w := w) (base := base) (TB := []) T G__changed G_can_do F_after
  have G_is_mask := ok_is_mask (P := P) (w := w) (base := base) (TB := []) T F_is_mask
  have G_Machine__check_deed := ok_Machine__check_deed (P := P) (w := w) (base := base) (TB := []) T G_is_mask ⟨a20, i20, k20⟩ F_Machine__check_deed
  have G_is_name := ok_is_name (P := P) (w := w) (base := base) (TB := []) T F_is_name
  have G__check_names := ok__check_names (P := P) (w := w) (base := base) (TB := []) T G_is_name F__check_names
  have G__check_order := ok__check_order (P := P) (w := w) (base := base) (TB := []) T F__check_order
  have G_Machine_init := ok_Machine_init (P := P) (w := w) (base := base) (TB := []) T G_Machine__check_deed G__check_names G__check_order G_is_mask ⟨mk_Machine, a24, i24, kc_Machine⟩ F_Machine_init
  have G_one := ok_one (P := P) (w := w) (base := base) (TB := []) T F_one
  have G_set_to := ok_set_to (P := P) (w := w) (base := base) (TB := []) T F_set_to
  have G__begin_deeds := ok__begin_deeds (P := P) (w := w) (base := base) (TB := []) T G_one G_set_to F__begin_deeds
  have G__end_deeds := ok__end_deeds (P := P) (w := w) (base := base) (TB := []) T G_one G_set_to F__end_deeds
  have G__rebuild_deeds := ok__rebuild_deeds (P := P) (w := w) (base := base) (TB := []) T G_one G_set_to F__rebuild_deeds
  have G_stripe_machine := ok_stripe_machine (P := P) (w := w) (base := base) (TB := []) T G_Machine_init G__begin_deeds G__end_deeds G__rebuild_deeds F_stripe_machine
  have G_law := ok_law (P := P) (w := w) (base := base) (TB := []) T G_StripeForm_init G__law_cell G__law_is_right G__law_mix G__law_names G__law_stripe G_after G_can_do G_stripe_machine F_law
  exact G_law
end K45
open PySem PySem.W PyProof.Rows in
set_option maxRecDepth 100000 in
set_option maxHeartbeats 0 in
theorem PySem.Challenge.cw_wreckhouse_k45_stripes_holds : PySem.Challenge.rw_wreckhouse_k45_stripes.Holds := by
  w_on; o_law; k_head; (case hw => w_witness2)
  k_fill
  refine DL.law_walk (l := PySem.Challenge.rw_wreckhouse_k45_stripes) (x := "script") (c := K45.c_law) (k := 6) rfl rfl ⟨rfl, by decide, by decide⟩ (fun _ _ _ hl h => by first | exact h | exact ⟨hl, h⟩) (fun w h Y => PySem.W.kIn_of Y) ?F
  case F =>
    intro w mg fa h KX G hmg
    refine' K45.all_mk KX G hmg ?gC_Machine ?pg_Machine ?hd_Machine ?po_Machine ?sa_Machine ?mk_Machine ?kc_Machine ?nf_cells_Machine ?nf_deeds_Machine ?nf_first_Machine ?gC_StripeForm ?pg_StripeForm ?hd_StripeForm ?po_StripeForm ?sa_StripeForm ?mk_StripeForm ?kc_StripeForm ?nf_alphabet_StripeForm ?a0 ?l0 ?c0 ?k0 ?a1 ?i1 ?l1 ?c1 ?k1 ?a2 ?l2 ?c2 ?k2 ?a3 ?l3 ?c3 ?k3 ?a4 ?l4 ?c4 ?k4 ?a5 ?l5 ?c5 ?k5 ?a6 ?l6 ?c6 ?k6 ?a7 ?l7 ?c7 ?k7 ?a8 ?l8 ?c8 ?k8 ?a9 ?l9 ?c9 ?k9 ?a10 ?l10 ?c10 ?k10 ?a11 ?l11 ?c11 ?k11 ?a12 ?l12 ?c12 ?k12 ?a13 ?l13 ?c13 ?k13 ?a14 ?l14 ?c14 ?k14 ?a15 ?l15 ?c15 ?k15 ?a16 ?l16 ?c16 ?k16 ?a17 ?l17 ?c17 ?k17 ?a18 ?l18 ?c18 ?k18 ?a19 ?l19 ?c19 ?k19 ?a20 ?i20 ?l20 ?c20 ?k20 ?a21 ?l21 ?c21 ?k21 ?a22 ?l22 ?c22 ?k22 ?a23 ?l23 ?c23 ?k23 ?a24 ?i24 ?l24 ?c24 ?k24 ?a25 ?l25 ?c25 ?k25 ?a26 ?l26 ?c26 ?k26 ?a27 ?l27 ?c27 ?k27 ?a28 ?l28 ?c28 ?k28 ?a29 ?l29 ?c29 ?k29 ?a30 ?l30 ?c30 ?k30 ?a31 ?l31 ?c31 ?k31 ?gP_WreckError ?xP_WreckError ?kP_WreckError ?bP_WreckError ?tP_WreckError ?iP_WreckError ?sP_WreckError ?gP_InvalidMachine ?xP_InvalidMachine ?kP_InvalidMachine ?bP_InvalidMachine ?tP_InvalidMachine ?iP_InvalidMachine ?sP_InvalidMachine ?gP_InvalidDisk ?xP_InvalidDisk ?kP_InvalidDisk ?bP_InvalidDisk ?tP_InvalidDisk ?iP_InvalidDisk ?sP_InvalidDisk ?gP_InvalidSketch ?xP_InvalidSketch ?kP_InvalidSketch ?bP_InvalidSketch ?tP_InvalidSketch ?iP_InvalidSketch ?sP_InvalidSketch ?gP_NoSuchDeed ?xP_NoSuchDeed ?kP_NoSuchDeed ?bP_NoSuchDeed ?tP_NoSuchDeed ?iP_NoSuchDeed ?sP_NoSuchDeed ?gP_CannotDo ?kP_CannotDo ?bP_CannotDo ?tP_CannotDo ?iP_CannotDo ?sP_CannotDo ?qP_CannotDo ?hP_CannotDo ?saP_CannotDo ?gaP_CannotDo ?ggP_CannotDo ?noP_CannotDo ?iiP_CannotDo ?itP_CannotDo ?liP_CannotDo ?cdP_CannotDo ?ccP_CannotDo ?vsP_CannotDo ?fiP_CannotDo ?ceP_CannotDo ?suP_CannotDo ?veP_CannotDo ?smP_CannotDo ?gP_InvalidForm ?xP_InvalidForm ?kP_InvalidForm ?bP_InvalidForm ?tP_InvalidForm ?iP_InvalidForm ?sP_InvalidForm ?gP_InvalidFile ?xP_InvalidFile ?kP_InvalidFile ?bP_InvalidFile ?tP_InvalidFile ?iP_InvalidFile ?sP_InvalidFile ?gP_NoRoom ?xP_NoRoom ?kP_NoRoom ?bP_NoRoom ?tP_NoRoom ?iP_NoRoom ?sP_NoRoom ?z_super ?z_anyT ?z_top ?sis_WreckError_InvalidFile ?sis_InvalidMachine_InvalidFile ?sis_InvalidDisk_InvalidFile ?sis_InvalidSketch_InvalidFile ?sis_NoSuchDeed_InvalidFile ?sis_CannotDo_InvalidFile ?sis_InvalidForm_InvalidFile ?sis_InvalidFile_InvalidFile ?sis_NoRoom_InvalidFile ?sis_WreckError_NoRoom ?sis_InvalidMachine_NoRoom ?sis_InvalidDisk_NoRoom ?sis_InvalidSketch_NoRoom ?sis_NoSuchDeed_NoRoom ?sis_CannotDo_NoRoom ?sis_InvalidForm_NoRoom ?sis_InvalidFile_NoRoom ?sis_NoRoom_NoRoom ?sis_WreckError_InvalidForm ?sis_InvalidMachine_InvalidForm ?sis_InvalidDisk_InvalidForm ?sis_InvalidSketch_InvalidForm ?sis_NoSuchDeed_InvalidForm ?sis_CannotDo_InvalidForm ?sis_InvalidForm_InvalidForm ?sis_InvalidFile_InvalidForm ?sis_NoRoom_InvalidForm ?ig_WreckError ?ik_WreckError ?id_WreckError ?ia_WreckError ?im_WreckError ?ig_InvalidMachine ?ik_InvalidMachine ?id_InvalidMachine ?ia_InvalidMachine ?im_InvalidMachine ?ig_InvalidDisk ?ik_InvalidDisk ?id_InvalidDisk ?ia_InvalidDisk ?im_InvalidDisk ?ig_InvalidSketch ?ik_InvalidSketch ?id_InvalidSketch ?ia_InvalidSketch ?im_InvalidSketch ?ig_NoSuchDeed ?ik_NoSuchDeed ?id_NoSuchDeed ?ia_NoSuchDeed ?im_NoSuchDeed ?ig_CannotDo ?ik_CannotDo ?id_CannotDo ?ia_CannotDo ?im_CannotDo ?ig_InvalidForm ?ik_InvalidForm ?id_InvalidForm ?ia_InvalidForm ?im_InvalidForm ?ig_InvalidFile ?ik_InvalidFile ?id_InvalidFile ?ia_InvalidFile ?im_InvalidFile ?ig_NoRoom ?ik_NoRoom ?id_NoRoom ?ia_NoRoom ?im_NoRoom ?ixn ?ixt ?sub_WreckError_WreckError ?sub_InvalidMachine_WreckError ?sub_InvalidDisk_WreckError ?sub_InvalidSketch_WreckError ?sub_NoSuchDeed_WreckError ?sub_CannotDo_WreckError ?sub_InvalidForm_WreckError ?sub_InvalidFile_WreckError ?sub_NoRoom_WreckError ?z_all ?z_enumerate ?z_int ?z_isinstance ?z_len ?z_list ?z_range ?z_set ?z_str ?z_tuple ?z_zip ?v_MOST_CELLS ?v_MOST_VALUES ?v_MOST_DEEDS ?v_LONGEST_NAME ?v_LOWER ?v_DIGITS ?v_PARITY ?v_WORK ?v_NO_WORK ?v_SOME_WORK
    (case gC_Machine => k_is)
    (case pg_Machine => k_is)
    (case hd_Machine => k_is)
    (case po_Machine => k_is)
    (case sa_Machine => k_is)
    (case mk_Machine => k_is)
    (case kc_Machine => k_is)
    (case nf_cells_Machine => k_is)
    (case nf_deeds_Machine => k_is)
    (case nf_first_Machine => k_is)
    (case gC_StripeForm => k_is)
    (case pg_StripeForm => k_is)
    (case hd_StripeForm => k_is)
    (case po_StripeForm => k_is)
    (case sa_StripeForm => k_is)
    (case mk_StripeForm => k_is)
    (case kc_StripeForm => k_is)
    (case nf_alphabet_StripeForm => k_is)
    (case a0 => k_is)
    (case l0 => k_is)
    (case c0 => k_is)
    (case k0 => k_is)
    (case a1 => k_is)
    (case i1 => k_is)
    (case l1 => k_is)
    (case c1 => k_is)
    (case k1 => k_is)
    (case a2 => k_is)
    (case l2 => k_is)
    (case c2 => k_is)
    (case k2 => k_is)
    (case a3 => k_is)
    (case l3 => k_is)
    (case c3 => k_is)
    (case k3 => k_is)
    (case a4 => k_is)
    (case l4 => k_is)
    (case c4 => k_is)
    (case k4 => k_is)
    (case a5 => k_is)
    (case l5 => k_is)
    (case c5 => k_is)
    (case k5 => k_is)
    (case a6 => k_is)
    (case l6 => k_is)
    (case c6 => k_is)
    (case k6 => k_is)
    (case a7 => k_is)
    (case l7 => k_is)
    (case c7 => k_is)
    (case k7 => k_is)
    (case a8 => k_is)
    (case l8 => k_is)
    (case c8 => k_is)
    (case k8 => k_is)
    (case a9 => k_is)
    (case l9 => k_is)
    (case c9 => k_is)
    (case k9 => k_is)
    (case a10 => k_is)
    (case l10 => k_is)
    (case c10 => k_is)
    (case k10 => k_is)
    (case a11 => k_is)
    (case l11 => k_is)
    (case c11 => k_is)
    (case k11 => k_is)
    (case a12 => k_is)
    (case l12 => k_is)
    (case c12 => k_is)
    (case k12 => k_is)
    (case a13 => k_is)
    (case l13 => k_is)
    (case c13 => k_is)
    (case k13 => k_is)
    (case a14 => k_is)
    (case l14 => k_is)
    (case c14 => k_is)
    (case k14 => k_is)
    (case a15 => k_is)
    (case l15 => k_is)
    (case c15 => k_is)
    (case k15 => k_is)
    (case a16 => k_is)
    (case l16 => k_is)
    (case c16 => k_is)
    (case k16 => k_is)
    (case a17 => k_is)
    (case l17 => k_is)
    (case c17 => k_is)
    (case k17 => k_is)
    (case a18 => k_is)
    (case l18 => k_is)
    (case c18 => k_is)
    (case k18 => k_is)
    (case a19 => k_is)
    (case l19 => k_is)
    (case c19 => k_is)
    (case k19 => k_is)
    (case a20 => k_is)
    (case i20 => k_is)
    (case l20 => k_is)
    (case c20 => k_is)
    (case k20 => k_is)
    (case a21 => k_is)
    (case l21 => k_is)
    (case c21 => k_is)
    (case k21 => k_is)
    (case a22 => k_is)
    (case l22 => k_is)
    (case c22 => k_is)
    (case k22 => k_is)
    (case a23 => k_is)
    (case l23 => k_is)
    (case c23 => k_is)
    (case k23 => k_is)
    (case a24 => k_is)
    (case i24 => k_is)
    (case l24 => k_is)
    (case c24 => k_is)
    (case k24 => k_is)
    (case a25 => k_is)
    (case l25 => k_is)
    (case c25 => k_is)
    (case k25 => k_is)
    (case a26 => k_is)
    (case l26 => k_is)
    (case c26 => k_is)
    (case k26 => k_is)
    (case a27 => k_is)
    (case l27 => k_is)
    (case c27 => k_is)
    (case k27 => k_is)
    (case a28 => k_is)
    (case l28 => k_is)
    (case c28 => k_is)
    (case k28 => k_is)
    (case a29 => k_is)
    (case l29 => k_is)
    (case c29 => k_is)
    (case k29 => k_is)
    (case a30 => k_is)
    (case l30 => k_is)
    (case c30 => k_is)
    (case k30 => k_is)
    (case a31 => k_is)
    (case l31 => k_is)
    (case c31 => k_is)
    (case k31 => k_is)
    (case gP_WreckError => k_is)
    (case xP_WreckError => k_exc)
    (case kP_WreckError => k_is)
    (case bP_WreckError => k_is)
    (case tP_WreckError => k_is)
    (case iP_WreckError => k_is)
    (case sP_WreckError => k_is)
    (case gP_InvalidMachine => k_is)
    (case xP_InvalidMachine => k_exc)
    (case kP_InvalidMachine => k_is)
    (case bP_InvalidMachine => k_is)
    (case tP_InvalidMachine => k_is)
    (case iP_InvalidMachine => k_is)
    (case sP_InvalidMachine => k_is)
    (case gP_InvalidDisk => k_is)
    (case xP_InvalidDisk => k_exc)
    (case kP_InvalidDisk => k_is)
    (case bP_InvalidDisk => k_is)
    (case tP_InvalidDisk => k_is)
    (case iP_InvalidDisk => k_is)
    (case sP_InvalidDisk => k_is)
    (case gP_InvalidSketch => k_is)
    (case xP_InvalidSketch => k_exc)
    (case kP_InvalidSketch => k_is)
    (case bP_InvalidSketch => k_is)
    (case tP_InvalidSketch => k_is)
    (case iP_InvalidSketch => k_is)
    (case sP_InvalidSketch => k_is)
    (case gP_NoSuchDeed => k_is)
    (case xP_NoSuchDeed => k_exc)
    (case kP_NoSuchDeed => k_is)
    (case bP_NoSuchDeed => k_is)
    (case tP_NoSuchDeed => k_is)
    (case iP_NoSuchDeed => k_is)
    (case sP_NoSuchDeed => k_is)
    (case gP_CannotDo => k_is)
    (case kP_CannotDo => k_is)
    (case bP_CannotDo => k_is)
    (case tP_CannotDo => k_is)
    (case iP_CannotDo => k_is)
    (case sP_CannotDo => k_is)
    (case qP_CannotDo => kx_is)
    (case hP_CannotDo => k_is)
    (case saP_CannotDo => k_is)
    (case gaP_CannotDo => k_is)
    (case ggP_CannotDo => k_is)
    (case noP_CannotDo => k_is)
    (case iiP_CannotDo => k_is)
    (case itP_CannotDo => k_is)
    (case liP_CannotDo => k_is)
    (case cdP_CannotDo => k_is)
    (case ccP_CannotDo => k_is)
    (case vsP_CannotDo => rfl)
    (case fiP_CannotDo => rfl)
    (case ceP_CannotDo => k_is)
    (case suP_CannotDo => ks_is)
    (case veP_CannotDo => k_is)
    (case smP_CannotDo => k_is)
    (case gP_InvalidForm => k_is)
    (case xP_InvalidForm => k_exc)
    (case kP_InvalidForm => k_is)
    (case bP_InvalidForm => k_is)
    (case tP_InvalidForm => k_is)
    (case iP_InvalidForm => k_is)
    (case sP_InvalidForm => k_is)
    (case gP_InvalidFile => k_is)
    (case xP_InvalidFile => k_exc)
    (case kP_InvalidFile => k_is)
    (case bP_InvalidFile => k_is)
    (case tP_InvalidFile => k_is)
    (case iP_InvalidFile => k_is)
    (case sP_InvalidFile => k_is)
    (case gP_NoRoom => k_is)
    (case xP_NoRoom => k_exc)
    (case kP_NoRoom => k_is)
    (case bP_NoRoom => k_is)
    (case tP_NoRoom => k_is)
    (case iP_NoRoom => k_is)
    (case sP_NoRoom => k_is)
    (case z_super => k_is)
    (case z_anyT => k_is)
    (case z_top => rfl)
    (case sis_WreckError_InvalidFile => k_is)
    (case sis_InvalidMachine_InvalidFile => k_is)
    (case sis_InvalidDisk_InvalidFile => k_is)
    (case sis_InvalidSketch_InvalidFile => k_is)
    (case sis_NoSuchDeed_InvalidFile => k_is)
    (case sis_CannotDo_InvalidFile => k_is)
    (case sis_InvalidForm_InvalidFile => k_is)
    (case sis_InvalidFile_InvalidFile => k_is)
    (case sis_NoRoom_InvalidFile => k_is)
    (case sis_WreckError_NoRoom => k_is)
    (case sis_InvalidMachine_NoRoom => k_is)
    (case sis_InvalidDisk_NoRoom => k_is)
    (case sis_InvalidSketch_NoRoom => k_is)
    (case sis_NoSuchDeed_NoRoom => k_is)
    (case sis_CannotDo_NoRoom => k_is)
    (case sis_InvalidForm_NoRoom => k_is)
    (case sis_InvalidFile_NoRoom => k_is)
    (case sis_NoRoom_NoRoom => k_is)
    (case sis_WreckError_InvalidForm => k_is)
    (case sis_InvalidMachine_InvalidForm => k_is)
    (case sis_InvalidDisk_InvalidForm => k_is)
    (case sis_InvalidSketch_InvalidForm => k_is)
    (case sis_NoSuchDeed_InvalidForm => k_is)
    (case sis_CannotDo_InvalidForm => k_is)
    (case sis_InvalidForm_InvalidForm => k_is)
    (case sis_InvalidFile_InvalidForm => k_is)
    (case sis_NoRoom_InvalidForm => k_is)
    (case ig_WreckError => k_is)
    (case ik_WreckError => k_is)
    (case id_WreckError => k_is)
    (case ia_WreckError => k_is)
    (case im_WreckError => k_is)
    (case ig_InvalidMachine => k_is)
    (case ik_InvalidMachine => k_is)
    (case id_InvalidMachine => k_is)
    (case ia_InvalidMachine => k_is)
    (case im_InvalidMachine => k_is)
    (case ig_InvalidDisk => k_is)
    (case ik_InvalidDisk => k_is)
    (case id_InvalidDisk => k_is)
    (case ia_InvalidDisk => k_is)
    (case im_InvalidDisk => k_is)
    (case ig_InvalidSketch => k_is)
    (case ik_InvalidSketch => k_is)
    (case id_InvalidSketch => k_is)
    (case ia_InvalidSketch => k_is)
    (case im_InvalidSketch => k_is)
    (case ig_NoSuchDeed => k_is)
    (case ik_NoSuchDeed => k_is)
    (case id_NoSuchDeed => k_is)
    (case ia_NoSuchDeed => k_is)
    (case im_NoSuchDeed => k_is)
    (case ig_CannotDo => k_is)
    (case ik_CannotDo => k_is)
    (case id_CannotDo => k_is)
    (case ia_CannotDo => k_is)
    (case im_CannotDo => k_is)
    (case ig_InvalidForm => k_is)
    (case ik_InvalidForm => k_is)
    (case id_InvalidForm => k_is)
    (case ia_InvalidForm => k_is)
    (case im_InvalidForm => k_is)
    (case ig_InvalidFile => k_is)
    (case ik_InvalidFile => k_is)
    (case id_InvalidFile => k_is)
    (case ia_InvalidFile => k_is)
    (case im_InvalidFile => k_is)
    (case ig_NoRoom => k_is)
    (case ik_NoRoom => k_is)
    (case id_NoRoom => k_is)
    (case ia_NoRoom => k_is)
    (case im_NoRoom => k_is)
    (case ixn => k_is)
    (case ixt => k_is)
    (case sub_WreckError_WreckError => k_is)
    (case sub_InvalidMachine_WreckError => k_is)
    (case sub_InvalidDisk_WreckError => k_is)
    (case sub_InvalidSketch_WreckError => k_is)
    (case sub_NoSuchDeed_WreckError => k_is)
    (case sub_CannotDo_WreckError => k_is)
    (case sub_InvalidForm_WreckError => k_is)
    (case sub_InvalidFile_WreckError => k_is)
    (case sub_NoRoom_WreckError => k_is)
    (case z_all => k_is)
    (case z_enumerate => k_is)
    (case z_int => k_is)
    (case z_isinstance => k_is)
    (case z_len => k_is)
    (case z_list => k_is)
    (case z_range => k_is)
    (case z_set => k_is)
    (case z_str => k_is)
    (case z_tuple => k_is)
    (case z_zip => k_is)
    (case v_MOST_CELLS => k_is)
    (case v_MOST_VALUES => k_is)
    (case v_MOST_DEEDS => k_is)
    (case v_LONGEST_NAME => k_is)
    (case v_LOWER => k_is)
    (case v_DIGITS => k_is)
    (case v_PARITY => k_is)
    (case v_WORK => k_is)
    (case v_NO_WORK => k_is)
    (case v_SOME_WORK => k_is)
#print axioms PySem.Challenge.cw_wreckhouse_k45_stripes_holds
