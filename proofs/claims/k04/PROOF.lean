import PyProof.Rows.All
import Wide.All
import OpenK.AllK
import Wide.FinOn
import HandS.ForMost
import HandS.ForExc
import KE.KEqDict
import HandS.Wide
import HandS.IsInst
import HandS.TupAny
import HandS.TupMul
import HandS.Deep
import HandS.Style
import HandS.Flow
import HandS.TupLe
import KE.DataFind
import PyProof.ReprLen
import KE.GoesNew
import PyProof.LongRange
import HandS.EndBits
import KE.KExcSuper
import HandS.Base
import HandS.Call
import HandS.Exc
import HandS.ExcInit
import HandS.Nested
import HandS.ExcField
import HandS.Defaults
import HandS.TryMany
import HandS.SortInts
import HandS.WideBits
import HandS.Gcd
import KE.LtData
import HandS.FltList
import KE.DataMinMax
import PySem.Challenge.RW_pointingreads_k04_whole_rows_read_alike
set_option Elab.async false
set_option linter.all false
set_option maxRecDepth 100000
set_option maxHeartbeats 1000000
namespace Dl
open PySem PySem.Spec PyProof.Rows L2
/-! ### values as trees; the drawing state; a world -/
inductive D where
  | non
  | bl (b : Bool)
  | int (i : Int)
  | str (x : Str)
  | tup (l : List D)
  | lst (l : List D)
  | dic (ks vs : List D)
  | scr (l : List Int)
  | hdl
  deriving Inhabited
structure Gs where
  cells : List Int
  great : List Int
  spot : Int
abbrev G := Option Gs
structure Wd where
  Z : Hp
  H : Hp
  g : G
  m : Addr
  c : Addr
  r : Addr
/-- at a stands a tuple of xs, a plain one -/
def TupR (K : PySem.W.Frag) (H : Hp) (a : Addr) (xs : List V) : Prop :=
  (∃ o, H a = some (.frz o (.tup xs)) ∧ o.dict = none) ∨
    ∃ (o : Obj) (its : Array Value) (n : Nat), K.lookup a = some o ∧ o.cls = .type "tuple" ∧ o.dict = none ∧ o.data = .seq its n ∧ its.size ≤ sizeLine ∧ Vals xs its.toList
theorem TupR.sq {K : PySem.W.Frag} {H : Hp} {a : Addr} {xs : List V} (h : TupR K H a xs) : SqT K H a xs := by
  rcases h with ⟨o, h, _⟩ | ⟨o, its, n, h1, h2, _, h3, h4, h5⟩
  · exact .inl (.inr ⟨o, h⟩)
  · exact .inr ⟨o, its, n, h1, h2, h3, h4, h5⟩
theorem TupR.same {K : PySem.W.Frag} {H H' : Hp} {a : Addr} {xs : List V} (e : Same H H') (h : TupR K H a xs) : TupR K H' a xs := by
  rcases h with ⟨o, h, d⟩ | h
  · exact .inl ⟨o, e _ _ h, d⟩
  · exact .inr h
/-- a key of a dict as a value -/
def kD : Key → D
  | .inl i => .int i
  | .inr x => .str x
mutual
inductive Rv (K : PySem.W.Frag) (w : Wd) : V → D → Prop
  | non : Rv K w .non .non
  | bl (b : Bool) : Rv K w (.bl b) (.bl b)
  | int (i : Int) : Rv K w (.int i) (.int i)
  | str (x : Str) : Rv K w (.str x) (.str x)
  | tup {a : Addr} {xs : List V} {ds : List D} : TupR K w.Z a xs → RvL K w xs ds → Rv K w (.ref a) (.tup ds)
  | lst {a : Addr} {xs : List V} {ds : List D} : w.Z a = some (.lst xs) → RvL K w xs ds → Rv K w (.ref a) (.lst ds)
  | dic {a : Addr} {xs : List (Key × V)} {ks vs : List D} : w.Z a = some (.dK xs) → ks = xs.map (fun p => kD p.1) → RvL K w (xs.map (·.2)) vs → Rv K w (.ref a) (.dic ks vs)
  | scr {a : Addr} {ns : List Int} : SqL K w.Z a (ns.map V.int) → Rv K w (.ref a) (.scr ns)
  | hdl {s : Gs} : w.g = some s → Rv K w (.ref w.m) .hdl
inductive RvL (K : PySem.W.Frag) (w : Wd) : List V → List D → Prop
  | nil : RvL K w [] []
  | cons {v : V} {vs : List V} {d : D} {ds : List D} : Rv K w v d → RvL K w vs ds → RvL K w (v :: vs) (d :: ds)
end
structure Drw (w : Wd) (s : Gs) : Prop where
  hm : w.H w.m = some (.dK [(.inr ("cells" : Str), .ref w.c), (.inr ("great" : Str), .ref w.r), (.inr ("spot" : Str), .int s.spot)])
  zc : w.Z w.c = some (.lst (s.cells.map V.int))
  hr : w.H w.r = some (.lst (s.great.map V.int))
  zm : w.Z w.m = none
  zr : w.Z w.r = none
structure Wok (w : Wd) : Prop where
  sub : Same w.Z w.H
  drw : ∀ s, w.g = some s → Drw w s
/-- not one of the drawing state's own objects -/
def Off (w : Wd) (a : Addr) : Prop := w.g = none ∨ (a ≠ w.m ∧ a ≠ w.r)
structure Grow (w w' : Wd) : Prop where
  zz : Same w.Z w'.Z
  keep : ∀ a o, w.H a = some o → Off w a → w'.H a = some o ∧ (w.Z a = none → w'.Z a = none)
  hd : ∀ s, w.g = some s → (∃ s', w'.g = some s') ∧ w'.m = w.m ∧ w'.c = w.c ∧ w'.r = w.r
  nw : w.g = none → ∀ s', w'.g = some s' → w.H w'.m = none ∧ w.H w'.r = none
theorem Grow.refl (w : Wd) : Grow w w where
  zz := Same.refl _
  keep := fun a o h _ => ⟨h, fun z => z⟩
  hd := fun s h => ⟨⟨s, h⟩, rfl, rfl, rfl⟩
  nw := fun h s' h' => by rw [h] at h'; cases h'
theorem Off.grow {w w' : Wd} (e : Grow w w') {a : Addr} {o : HO} (h : w.H a = some o) (f : Off w a) : Off w' a := by
  cases hg : w.g with
  | none =>
    cases hg' : w'.g with
    | none => exact .inl hg'
    | some s' =>
      obtain ⟨n1, n3⟩ := e.nw hg s' hg'
      refine .inr ⟨fun z => ?_, fun z => ?_⟩
      · rw [← z, h] at n1; cases n1
      · rw [← z, h] at n3; cases n3
  | some s =>
    obtain ⟨_, e1, e2, e3⟩ := e.hd s hg
    rcases f with f | ⟨f1, f3⟩
    · rw [hg] at f; cases f
    · exact .inr ⟨by rw [e1]; exact f1, by rw [e3]; exact f3⟩
theorem Grow.trans {w w' w'' : Wd} (a : Grow w w') (b : Grow w' w'') : Grow w w'' where
  zz := a.zz.trans b.zz
  keep := fun x o h f => by
    obtain ⟨h1, z1⟩ := a.keep x o h f
    obtain ⟨h2, z2⟩ := b.keep x o h1 (f.grow a h)
    exact ⟨h2, fun z => z2 (z1 z)⟩
  hd := fun s h => by
    obtain ⟨⟨s1, g1⟩, e1, e2, e3⟩ := a.hd s h
    obtain ⟨x, f1, f2, f3⟩ := b.hd s1 g1
    exact ⟨x, f1.trans e1, f2.trans e2, f3.trans e3⟩
  nw := fun h s' h' => by
    have back : ∀ x, w'.H x = none → w.H x = none := fun x n => by
      cases q : w.H x with
      | none => rfl
      | some o =>
        obtain ⟨h1, _⟩ := a.keep x o q (.inl h)
        rw [h1] at n; cases n
    cases hg : w'.g with
    | none =>
      obtain ⟨n1, n3⟩ := b.nw hg s' h'
      exact ⟨back _ n1, back _ n3⟩
    | some s1 =>
      obtain ⟨_, e1, e2, e3⟩ := b.hd s1 hg
      rw [e1, e3]
      exact a.nw h s1 hg
theorem sqT_same {K : PySem.W.Frag} {H H' : Hp} {a : Addr} {xs : List V} (e : Same H H') (h : SqT K H a xs) : SqT K H' a xs := by
  rcases h with (h | ⟨o, h⟩) | h
  · exact .inl (.inl (e _ _ h))
  · exact .inl (.inr ⟨o, e _ _ h⟩)
  · exact .inr h
/-- what is frozen stays -/
structure Zl (w w' : Wd) : Prop where
  zz : Same w.Z w'.Z
  hd : ∀ s, w.g = some s → (∃ s', w'.g = some s') ∧ w'.m = w.m
theorem Grow.zl {w w' : Wd} (e : Grow w w') : Zl w w' := ⟨e.zz, fun s h => ⟨(e.hd s h).1, (e.hd s h).2.1⟩⟩
section
variable {K : PySem.W.Frag} {w w' : Wd}
mutual
theorem Rv.mono (e : Zl w w') : ∀ {v : V} {d : D}, Rv K w v d → Rv K w' v d
  | _, _, .non => .non
  | _, _, .bl b => .bl b
  | _, _, .int i => .int i
  | _, _, .str x => .str x
  | _, _, .tup h l => .tup (h.same e.zz) (RvL.mono e l)
  | _, _, .lst h l => .lst (e.zz _ _ h) (RvL.mono e l)
  | _, _, .dic h q l => .dic (e.zz _ _ h) q (RvL.mono e l)
  | _, _, .scr h => .scr (e.zz.seq h)
  | _, _, .hdl (s := s) h => by
    obtain ⟨⟨s', h'⟩, e1⟩ := e.hd s h
    rw [← e1]
    exact .hdl h'
theorem RvL.mono (e : Zl w w') : ∀ {vs : List V} {ds : List D}, RvL K w vs ds → RvL K w' vs ds
  | _, _, .nil => .nil
  | _, _, .cons h t => .cons (Rv.mono e h) (RvL.mono e t)
end
theorem Rv.grow {v : V} {d : D} (r : Rv K w v d) (e : Grow w w') : Rv K w' v d := r.mono e.zl
theorem RvL.grow {vs : List V} {ds : List D} (r : RvL K w vs ds) (e : Grow w w') : RvL K w' vs ds := r.mono e.zl
theorem RvL.length : ∀ {vs : List V} {ds : List D}, RvL K w vs ds → vs.length = ds.length
  | _, _, .nil => rfl
  | _, _, .cons _ t => congrArg (· + 1) (RvL.length t)
theorem RvL.append : ∀ {vs us : List V} {ds es : List D}, RvL K w vs ds → RvL K w us es → RvL K w (vs ++ us) (ds ++ es)
  | _, _, _, _, .nil, s => s
  | _, _, _, _, .cons h t, s => .cons h (RvL.append t s)
theorem RvL.get : ∀ {vs : List V} {ds : List D} {i : Nat} {d : D}, RvL K w vs ds → ds[i]? = some d → ∃ v, vs[i]? = some v ∧ Rv K w v d
  | _, _, _, _, .nil, e => by simp at e
  | _, _, 0, _, .cons r _, e => by simp at e; subst e; exact ⟨_, rfl, r⟩
  | _, _, i + 1, d, .cons r t, e => by
    obtain ⟨u, h1, h2⟩ := RvL.get (i := i) (d := d) t (by simpa using e)
    exact ⟨u, by simpa using h1, h2⟩
theorem RvL.getV : ∀ {vs : List V} {ds : List D} {i : Nat} {v : V}, RvL K w vs ds → vs[i]? = some v → ∃ d, ds[i]? = some d ∧ Rv K w v d
  | _, _, _, _, .nil, e => by simp at e
  | _, _, 0, _, .cons r _, e => by simp at e; subst e; exact ⟨_, rfl, r⟩
  | _, _, i + 1, v, .cons r t, e => by
    obtain ⟨u, h1, h2⟩ := RvL.getV (i := i) (v := v) t (by simpa using e)
    exact ⟨u, by simpa using h1, h2⟩
theorem RvL.set {v : V} {d : D} (r : Rv K w v d) : ∀ {vs : List V} {ds : List D} (i : Nat), RvL K w vs ds → RvL K w (vs.set i v) (ds.set i d)
  | _, _, _, .nil => .nil
  | _, _, 0, .cons _ t => .cons r t
  | _, _, i + 1, .cons q t => .cons q (RvL.set r i t)
theorem RvL.take : ∀ {vs : List V} {ds : List D} (n : Nat), RvL K w vs ds → RvL K w (vs.take n) (ds.take n)
  | _, _, 0, _ => .nil
  | _, _, _ + 1, .nil => .nil
  | _, _, n + 1, .cons r t => .cons r (RvL.take n t)
theorem RvL.drop : ∀ {vs : List V} {ds : List D} (n : Nat), RvL K w vs ds → RvL K w (vs.drop n) (ds.drop n)
  | _, _, 0, r => r
  | _, _, _ + 1, .nil => .nil
  | _, _, n + 1, .cons _ t => RvL.drop n t
theorem RvL.reverse : ∀ {vs : List V} {ds : List D}, RvL K w vs ds → RvL K w vs.reverse ds.reverse
  | _, _, .nil => .nil
  | _, _, .cons r t => by rw [List.reverse_cons, List.reverse_cons]; exact (RvL.reverse t).append (.cons r .nil)
theorem RvL.eraseIdx : ∀ {vs : List V} {ds : List D} (i : Nat), RvL K w vs ds → RvL K w (vs.eraseIdx i) (ds.eraseIdx i)
  | _, _, _, .nil => .nil
  | _, _, 0, .cons _ t => t
  | _, _, i + 1, .cons q t => .cons q (RvL.eraseIdx i t)
theorem RvL.ints : ∀ (ns : List Int), RvL K w (ns.map V.int) (ns.map D.int)
  | [] => .nil
  | n :: r => .cons (.int n) (RvL.ints r)
theorem RvL.ints_inv : ∀ {vs : List V} {ns : List Int}, RvL K w vs (ns.map D.int) → vs = ns.map V.int
  | [], [], .nil => rfl
  | _, _ :: _, .cons (.int _) t => by rw [RvL.ints_inv t]; rfl
end
/-! ### outcomes -/
inductive Sl where
  | no
  | im (d : D)
  | ow (l : List D)
  | od (l : List (D × D))
  | al (b : Bool)
abbrev Env := List Sl
inductive Re (α : Type) where
  | ok (a : α) (g : G)
  | ex (c : Str) (fs : List (Str × D)) (r : Env) (g : G)
  | bad
abbrev Me (α : Type) := Env → G → Re α
abbrev Sg := L2.St
def Re.bind {α β : Type} (x : Re α) (f : α → G → Re β) : Re β :=
  match x with
  | .ok a g => f a g
  | .ex c fs r g => .ex c fs r g
  | .bad => .bad
/-- what the written part and the module's names are -/
structure Kt where
  K : PySem.W.Frag
  mg : Str → Option Value
/-- an exception of the class named c with these fields -/
def Xr (k : Kt) (w : Wd) (cls : Value) (od : Option Addr) (c : Str) (fs : List (Str × D)) : Prop :=
  ∃ C : Addr, k.mg c = some (.ref C) ∧ cls = .ref C ∧ ∃ (dd : Addr) (fv : List (Str × V)), od = some dd ∧ w.H dd = some (.xd fv) ∧ fv.map (·.1) = fs.map (·.1) ∧ RvL k.K w (fv.map (·.2)) (fs.map (·.2))
/-- the world changes from w to w', g' drawn -/
structure To (w w' : Wd) (g' : G) : Prop where
  gr : Grow w w'
  ok : Wok w'
  g : w'.g = g'
def Po {α β : Type} (k : Kt) (W : WX) (RR : Wd → Wd → β → α → Prop) (w : Wd) (σ : Sg) (Q : β → Hp → Prop) : Re α → Prop
  | .ok a g' => ∀ v w', To w w' g' → RR w w' v a → Q v w'.H
  | .ex c fs _ g' => ∀ w' cls od, To w w' g' → Xr k w' cls od c fs → W cls od σ w'.H
  | .bad => False
/-- a relation that may be looked at from an earlier world -/
def Lft {α β : Type} (RR : Wd → Wd → β → α → Prop) : Prop := ∀ w w' w'' v a, Grow w w' → RR w' w'' v a → RR w w'' v a
theorem Po.lift {α β : Type} {k : Kt} {W : WX} {RR : Wd → Wd → β → α → Prop} {w w' : Wd} {σ : Sg} {Q : β → Hp → Prop} {x : Re α} (L : Lft RR) (h : Po k W RR w σ Q x) (e : Grow w w') : Po k W RR w' σ Q x := by
  cases x with
  | ok a g => exact fun v w2 t r => h v w2 ⟨e.trans t.gr, t.ok, t.g⟩ (L _ _ _ _ _ e r)
  | ex c fs ρ g => exact fun w2 cls od t r => h w2 cls od ⟨e.trans t.gr, t.ok, t.g⟩ r
  | bad => exact h
theorem Po.bind {α β γ δ : Type} {k : Kt} {W : WX} {RA : Wd → Wd → β → α → Prop} {RB : Wd → Wd → δ → γ → Prop} {w : Wd} {σ : Sg} {Q : δ → Hp → Prop} {Q' : β → Hp → Prop} {x : Re α} {f : α → G → Re γ} (L : Lft RB)
    (h : Po k W RB w σ Q (x.bind f)) (n : ∀ a v w', x = .ok a w'.g → Grow w w' → Wok w' → RA w w' v a → Po k W RB w' σ Q (f a w'.g) → Q' v w'.H) : Po k W RA w σ Q' x := by
  cases x with
  | ok a g => exact fun v w2 t r => n a v w2 (by rw [t.g]) t.gr t.ok r (by rw [t.g]; exact Po.lift L h t.gr)
  | ex c fs ρ g => exact h
  | bad => exact h
/-! ### the kinds of what an expression gives -/
/-- a value -/
def rD (k : Kt) : Wd → Wd → V → D → Prop := fun _ w v d => Rv k.K w v d
/-- a value, or a list of the def's own that is looked at -/
def Bv (K : PySem.W.Frag) (w : Wd) (v : V) (d : D) : Prop := Rv K w v d ∨ (∃ a xs ds, v = .ref a ∧ d = .lst ds ∧ w.H a = some (.lst xs) ∧ Off w a ∧ w.Z a = none ∧ RvL K w xs ds) ∨
  ∃ a xs ks vs, v = .ref a ∧ d = .dic ks vs ∧ w.H a = some (.dK xs) ∧ Off w a ∧ w.Z a = none ∧ ks = xs.map (fun p => kD p.1) ∧ RvL K w (xs.map (·.2)) vs
def rB (k : Kt) : Wd → Wd → V → D → Prop := fun _ w v d => Bv k.K w v d
/-- an object that is new since w0 and not yet shared -/
structure New (w0 w : Wd) (a : Addr) : Prop where
  h : w0.H a = none
  o0 : Off w0 a
  z : w.Z a = none
  off : Off w a
def rF (k : Kt) : Wd → Wd → V → List D → Prop := fun w0 w v l => ∃ a xs, v = .ref a ∧ New w0 w a ∧ w.H a = some (.lst xs) ∧ RvL k.K w xs l
def rL (k : Kt) : Wd → Wd → List V → List D → Prop := fun _ w vs ds => RvL k.K w vs ds
def rT : Wd → Wd → Bool → Bool → Prop := fun _ _ a b => a = b
theorem Grow.back {w w' : Wd} (e : Grow w w') {a : Addr} (h : w'.H a = none) (f : Off w a) : w.H a = none := by
  cases q : w.H a with
  | none => rfl
  | some o =>
    obtain ⟨h1, _⟩ := e.keep a o q f
    rw [h1] at h; cases h
theorem lft_D (k : Kt) : Lft (rD k) := fun _ _ _ _ _ _ h => h
theorem lft_B (k : Kt) : Lft (rB k) := fun _ _ _ _ _ _ h => h
theorem lft_L (k : Kt) : Lft (rL k) := fun _ _ _ _ _ _ h => h
theorem lft_T : Lft rT := fun _ _ _ _ _ _ h => h
theorem Off.back {w w' : Wd} (e : Grow w w') {a : Addr} (f : Off w' a) : Off w a := by
  cases hg : w.g with
  | none => exact .inl hg
  | some s =>
    obtain ⟨⟨s', h'⟩, e1, e2, e3⟩ := e.hd s hg
    rcases f with f | ⟨f1, f3⟩
    · rw [h'] at f; cases f
    · exact .inr ⟨by rw [← e1]; exact f1, by rw [← e3]; exact f3⟩
theorem lft_F (k : Kt) : Lft (rF k) := fun w w' w'' v l e h => by
  obtain ⟨a, xs, h1, n, h2, h3⟩ := h
  exact ⟨a, xs, h1, ⟨e.back n.h (n.o0.back e), n.o0.back e, n.z, n.off⟩, h2, h3⟩
/-- the state of a def's slots: w0 the world at its entry -/
inductive SlOk (K : PySem.W.Frag) (w0 w : Wd) : Option (Option V) → Sl → Prop
  | no {x : Option (Option V)} : SlOk K w0 w x .no
  | im {v : V} {d : D} : Rv K w v d → SlOk K w0 w (some (some v)) (.im d)
  | ow {a : Addr} {xs : List V} {l : List D} : New w0 w a → w.H a = some (.lst xs) → RvL K w xs l → SlOk K w0 w (some (some (.ref a))) (.ow l)
  | od {a : Addr} {xs : List (Key × V)} {l : List (D × D)} : New w0 w a → w.H a = some (.dK xs) → l.map (·.1) = xs.map (fun p => kD p.1) → RvL K w (xs.map (·.2)) (l.map (·.2)) → SlOk K w0 w (some (some (.ref a))) (.od l)
  | al {s : Gs} (b : Bool) : w.g = some s → SlOk K w0 w (some (some (.ref (if b = true then w.r else w.c)))) (.al b)
def Sl.own : Sl → Bool
  | .ow _ => true
  | .od _ => true
  | _ => false
structure Rel (K : PySem.W.Frag) (w0 w : Wd) (ρ : Env) (σ : Sg) : Prop where
  ok : Wok w
  gr : Grow w0 w
  ln : ρ.length = σ.length
  sl : ∀ (i : Nat) (s : Sl), ρ[i]? = some s → SlOk K w0 w σ[i]? s
  inj : ∀ (i j : Nat) (s t : Sl) (a : Addr), i ≠ j → ρ[i]? = some s → ρ[j]? = some t → s.own = true → t.own = true → σ[i]? = some (some (.ref a)) → σ[j]? = some (some (.ref a)) → False
theorem New.step {w0 w w' : Wd} {a : Addr} {o : HO} (n : New w0 w a) (h : w.H a = some o) (e : Grow w w') : New w0 w' a ∧ w'.H a = some o := by
  obtain ⟨h1, z1⟩ := e.keep a o h n.off
  exact ⟨⟨n.h, n.o0, z1 n.z, n.off.grow e h⟩, h1⟩
theorem SlOk.step {K : PySem.W.Frag} {w0 w w' : Wd} {x : Option (Option V)} {s : Sl} (h : SlOk K w0 w x s) (e : Grow w w') : SlOk K w0 w' x s := by
  cases h with
  | no => exact .no
  | im r => exact .im (r.grow e)
  | ow n h r =>
    obtain ⟨n', h'⟩ := n.step h e
    exact .ow n' h' (r.grow e)
  | od n h m r =>
    obtain ⟨n', h'⟩ := n.step h e
    exact .od n' h' m (r.grow e)
  | @al s b h =>
    obtain ⟨⟨s', h'⟩, _, e2, e3⟩ := e.hd s h
    have z := SlOk.al (K := K) (w0 := w0) (w := w') b h'
    rw [e2, e3] at z
    exact z
theorem Rel.step {K : PySem.W.Frag} {w0 w w' : Wd} {ρ : Env} {σ : Sg} (h : Rel K w0 w ρ σ) (e : Grow w w') (o : Wok w') : Rel K w0 w' ρ σ :=
  ⟨o, h.gr.trans e, h.ln, fun i s q => (h.sl i s q).step e, h.inj⟩
/-! ### contexts and judgements -/
structure Ctx where
  P : Program
  w : World
  k : Kt
  base : Heap
  N : List Str
  sc : Scope
  lv : Nat
  W : WX
  fn : Str → Bool
  top : Bool
structure CtxOk (C : Ctx) (X : Cx) : Prop where
  P : X.prog = C.P
  w : X.w = C.w
  K : X.K = C.k.K
  mg : X.mg = C.k.mg
  base : X.base = C.base
  N : X.N = C.N
  nd : X.N.Nodup
  sc : X.env.scope = C.sc
  calm : X.calm = true
  room : Room C.lv X.A
  gd : X.A.guards = some []
  tk : Takes X C.W
  pa : PassesOwn (model X.prog X.w) X.A X.env X.xe
  fn : X.fn = C.fn
  top : C.top = true → X.stack = X.env :: X.outer ∧ X.env.frame = some X.env.locals
/-- t, run where the slots are ρ, gives what f says -/
structure Ev (C : Ctx) {α β : Type} (RR : Wd → Wd → β → α → Prop) (t : Sg → Hp → (β → Hp → Prop) → Prop) (f : Me α) : Prop where
  run : ∀ w0 w ρ σ Q, Rel C.k.K w0 w ρ σ → Po C.k C.W RR w σ Q (f ρ w.g) → t σ w.H Q
def DX (C : Ctx) {α : Type} (RR : Wd → Wd → V → α → Prop) (e : Expr) (f : Me α) : Prop := ∃ t : TE, (∀ X, CtxOk C X → PE X e t) ∧ Ev C RR t f
abbrev DE (C : Ctx) (e : Expr) (f : Me D) : Prop := DX C (rD C.k) e f
abbrev DB (C : Ctx) (e : Expr) (f : Me D) : Prop := DX C (rB C.k) e f
abbrev DF (C : Ctx) (e : Expr) (f : Me (List D)) : Prop := DX C (rF C.k) e f
def DT (C : Ctx) (e : Expr) (f : Me Bool) : Prop := ∃ t : TT, (∀ X, CtxOk C X → PT X e t) ∧ Ev C rT t f
def DA (C : Ctx) (es : List Expr) (f : Me (List D)) : Prop := ∃ t : TA, (∀ X, CtxOk C X → PA X es t) ∧ Ev C (rL C.k) t f
theorem Po.imp {α β : Type} {k : Kt} {W : WX} {RR RR' : Wd → Wd → β → α → Prop} {w : Wd} {σ : Sg} {Q : β → Hp → Prop} {x : Re α} (h : Po k W RR w σ Q x) (i : ∀ w' v a, Grow w w' → Wok w' → RR' w w' v a → RR w w' v a) : Po k W RR' w σ Q x := by
  cases x with
  | ok a g => exact fun v w2 t r => h v w2 t (i _ _ _ t.gr t.ok r)
  | ex c fs ρ g => exact h
  | bad => exact h
theorem DX.imp {C : Ctx} {α : Type} {RR RR' : Wd → Wd → V → α → Prop} {e : Expr} {f : Me α} (h : DX C RR' e f) (i : ∀ w w' v a, Grow w w' → Wok w' → RR' w w' v a → RR w w' v a) : DX C RR e f := by
  obtain ⟨t, p, v⟩ := h
  exact ⟨t, p, ⟨fun w0 w ρ σ Q R h => v.run w0 w ρ σ Q R (h.imp fun w' v a => i w w' v a)⟩⟩
theorem DE.b {C : Ctx} {e : Expr} {f : Me D} (h : DE C e f) : DB C e f := DX.imp h fun _ _ _ _ _ _ r => .inl r
/-- the result's own form -/
def mapRe {α β : Type} (F : α → β) : Re α → Re β
  | .ok a g => .ok (F a) g
  | .ex c fs r g => .ex c fs r g
  | .bad => .bad
def eLst (f : Me (List D)) : Me D := fun ρ g => mapRe D.lst (f ρ g)
theorem DF.b {C : Ctx} {e : Expr} {f : Me (List D)} (h : DF C e f) : DB C e (eLst f) := by
  obtain ⟨t, p, v⟩ := h
  refine ⟨t, p, ⟨fun w0 w ρ σ Q R h => v.run w0 w ρ σ Q R ?_⟩⟩
  have h : Po C.k C.W (rB C.k) w σ Q (mapRe D.lst (f ρ w.g)) := h
  cases q : f ρ w.g with
  | ok a g =>
    rw [q] at h
    exact fun v w2 t r => h v w2 t (by obtain ⟨x, xs, h1, n, h2, h3⟩ := r; exact .inr (.inl ⟨x, xs, a, h1, rfl, h2, n.off, n.z, h3⟩))
  | ex c fs r g => rw [q] at h; exact h
  | bad => rw [q] at h; exact h
/-- a new object is shared from now on -/
theorem Wok.freeze {w : Wd} (o : Wok w) {a : Addr} {u : HO} (h : w.H a = some u) (z : w.Z a = none) (f : Off w a) : Wok { w with Z := upd w.Z a u } := by
  refine ⟨fun b x e => ?_, fun s hs => ?_⟩
  · by_cases hb : b = a
    · subst hb
      have e : upd w.Z b u b = some x := e
      rw [upd_same] at e
      cases e
      exact h
    · have e : upd w.Z a u b = some x := e
      rw [upd_ne hb] at e
      exact o.sub b x e
  · have d := o.drw s hs
    rcases f with f | ⟨f1, f3⟩
    · have hs : w.g = some s := hs
      rw [f] at hs
      cases hs
    · exact ⟨d.hm, by show upd w.Z a u w.c = _; rw [upd_ne (ne_of_none d.zc z)]; exact d.zc, d.hr, by show upd w.Z a u w.m = none; rw [upd_ne (Ne.symm f1)]; exact d.zm, by show upd w.Z a u w.r = none; rw [upd_ne (Ne.symm f3)]; exact d.zr⟩
theorem Same.updz {H : Hp} {a : Addr} {u : HO} (z : H a = none) : Same H (upd H a u) := fun b o e => by rw [upd_ne (ne_of_none e z)]; exact e
theorem Grow.freeze {w w' : Wd} (e : Grow w w') {a : Addr} {u : HO} (n : New w w' a) : Grow w { w' with Z := upd w'.Z a u } where
  zz := e.zz.trans (Same.updz n.z)
  keep := fun b o h f => by
    obtain ⟨h1, z1⟩ := e.keep b o h f
    exact ⟨h1, fun z => by show upd w'.Z a u b = none; rw [upd_ne (ne_of_none h n.h)]; exact z1 z⟩
  hd := e.hd
  nw := e.nw
theorem Zl.put {w : Wd} {a : Addr} {u : HO} {H : Hp} (z : w.Z a = none) : Zl w { w with Z := upd w.Z a u, H := H } := ⟨Same.updz z, fun s h => ⟨⟨s, h⟩, rfl⟩⟩
theorem Zl.of_H {w : Wd} {H : Hp} : Zl w { w with H := H } := ⟨Same.refl _, fun s h => ⟨⟨s, h⟩, rfl⟩⟩
theorem none_of_sub {w : Wd} (o : Wok w) {a : Addr} (h : w.H a = none) : w.Z a = none := by
  cases q : w.Z a with
  | none => rfl
  | some u => rw [o.sub a u q] at h; cases h
theorem Off.of_none {w : Wd} (o : Wok w) {a : Addr} (h : w.H a = none) : Off w a := by
  cases hg : w.g with
  | none => exact .inl hg
  | some s =>
    have d := o.drw s hg
    exact .inr ⟨fun z => (by rw [z, d.hm] at h; cases h), fun z => (by rw [z, d.hr] at h; cases h)⟩
/-- a new object, the def's own -/
theorem Wok.new {w : Wd} (o : Wok w) {p : Addr} {u : HO} (h : w.H p = none) : Wok { w with H := upd w.H p u } := by
  have f := Off.of_none o h
  refine ⟨fun b x e => ?_, fun s hs => ?_⟩
  · show upd w.H p u b = some x
    have q := o.sub b x e
    rw [upd_ne (ne_of_none q h)]
    exact q
  · have d := o.drw s hs
    exact ⟨by show upd w.H p u w.m = _; rw [upd_ne (ne_of_none d.hm h)]; exact d.hm, d.zc, by show upd w.H p u w.r = _; rw [upd_ne (ne_of_none d.hr h)]; exact d.hr, d.zm, d.zr⟩
theorem Grow.new {w : Wd} {p : Addr} {u : HO} (h : w.H p = none) : Grow w { w with H := upd w.H p u } where
  zz := Same.refl _
  keep := fun b x e f => ⟨by show upd w.H p u b = _; rw [upd_ne (ne_of_none e h)]; exact e, fun z => z⟩
  hd := fun s e => ⟨⟨s, e⟩, rfl, rfl, rfl⟩
  nw := fun e s' e' => (by have e' : w.g = some s' := e'; rw [e] at e'; cases e')
theorem New.of {w : Wd} (o : Wok w) {p : Addr} {u : HO} (h : w.H p = none) : New w { w with H := upd w.H p u } p :=
  ⟨h, Off.of_none o h, none_of_sub o h, Off.of_none o h⟩
/-- a new object, shared at once -/
theorem Wok.lay {w : Wd} (o : Wok w) {p : Addr} {u : HO} (h : w.H p = none) : Wok { w with Z := upd w.Z p u, H := upd w.H p u } :=
  (o.new (u := u) h).freeze upd_same (none_of_sub o h) (Off.of_none o h)
theorem Grow.lay {w : Wd} (o : Wok w) {p : Addr} {u : HO} (h : w.H p = none) : Grow w { w with Z := upd w.Z p u, H := upd w.H p u } :=
  (Grow.new (u := u) h).freeze (New.of o h)
theorem To.lay {w : Wd} (o : Wok w) {p : Addr} {u : HO} (h : w.H p = none) : To w { w with Z := upd w.Z p u, H := upd w.H p u } w.g := ⟨.lay o h, o.lay h, rfl⟩
theorem To.new {w : Wd} (o : Wok w) {p : Addr} {u : HO} (h : w.H p = none) : To w { w with H := upd w.H p u } w.g := ⟨.new h, o.new h, rfl⟩
theorem To.refl {w : Wd} (o : Wok w) : To w w w.g := ⟨.refl w, o, rfl⟩
theorem DF.e {C : Ctx} {e : Expr} {f : Me (List D)} (h : DF C e f) : DE C e (eLst f) := by
  obtain ⟨t, p, v⟩ := h
  refine ⟨t, p, ⟨fun w0 w ρ σ Q R h => v.run w0 w ρ σ Q R ?_⟩⟩
  have h : Po C.k C.W (rD C.k) w σ Q (mapRe D.lst (f ρ w.g)) := h
  cases q : f ρ w.g with
  | ok a g =>
    rw [q] at h
    refine fun v w2 t r => ?_
    obtain ⟨x, xs, h1, n, h2, h3⟩ := r
    subst h1
    exact h (.ref x) { w2 with Z := upd w2.Z x (.lst xs) } ⟨t.gr.freeze n, t.ok.freeze h2 n.z n.off, t.g⟩ (.lst upd_same (h3.mono (.put n.z)))
  | ex c fs r g => rw [q] at h; exact h
  | bad => rw [q] at h; exact h
/-! ### names and constants -/
def eC (d : D) : Me D := fun _ g => .ok d g
def eVar (i : Nat) : Me D := fun ρ g => match ρ[i]? with
  | some (.im d) => .ok d g
  | _ => .bad
def eBor (i : Nat) : Me D := fun ρ g => match ρ[i]? with
  | some (.im d) => .ok d g
  | some (.ow l) => .ok (.lst l) g
  | some (.od l) => .ok (.dic (l.map (·.1)) (l.map (·.2))) g
  | _ => .bad
def visB (sc : Scope) (x : Str) : Bool := match sc.names.lookup x with
  | some .local => true
  | some .cell => true
  | some .free => true
  | _ => false
theorem vis_of {sc : Scope} {x : Str} (h : visB sc x = true) : Vis sc x := by
  unfold visB at h
  split at h
  · exact .inl (by assumption)
  · exact .inr (.inl (by assumption))
  · exact .inr (.inr (by assumption))
  · cases h
section
variable {C : Ctx} {pos : Pos}
theorem pe_slot {i : Nat} {x : Str} {X : Cx} (h : CtxOk C X) (hN : C.N[i]? = some x) (hv : visB C.sc x = true) (hd : (x == ("__debug__" : Str)) = false) (hcd : (x == ("__classdict__" : Str)) = false) : PE X (.Name x pos) (tVar i) :=
  pe_var (by rw [h.N]; exact hN) (by rw [h.sc]; exact vis_of hv) hd hcd
theorem de_var (i : Nat) {x : Str} (hN : C.N[i]? = some x := by rfl) (hv : visB C.sc x = true := by rfl) (hd : (x == ("__debug__" : Str)) = false := by decide +kernel) (hcd : (x == ("__classdict__" : Str)) = false := by decide +kernel) : DE C (.Name x pos) (eVar i) := by
  refine ⟨tVar i, fun X h => pe_slot h hN hv hd hcd, ⟨fun w0 w ρ σ Q R h => ?_⟩⟩
  unfold eVar at h
  split at h
  · rename_i d e
    have s := R.sl i _ e
    generalize hx : σ[i]? = x at s
    cases s with
    | im r => exact ⟨_, hx, h _ w (.refl R.ok) r⟩
  · exact h.elim
theorem db_var (i : Nat) {x : Str} (hN : C.N[i]? = some x := by rfl) (hv : visB C.sc x = true := by rfl) (hd : (x == ("__debug__" : Str)) = false := by decide +kernel) (hcd : (x == ("__classdict__" : Str)) = false := by decide +kernel) : DB C (.Name x pos) (eBor i) := by
  refine ⟨tVar i, fun X h => pe_slot h hN hv hd hcd, ⟨fun w0 w ρ σ Q R h => ?_⟩⟩
  unfold eBor at h
  split at h
  · rename_i d e
    have s := R.sl i _ e
    generalize hx : σ[i]? = x at s
    cases s with
    | im r => exact ⟨_, hx, h _ w (.refl R.ok) (.inl r)⟩
  · rename_i l e
    have s := R.sl i _ e
    generalize hx : σ[i]? = x at s
    cases s with
    | ow n h2 r => exact ⟨_, hx, h _ w (.refl R.ok) (.inr (.inl ⟨_, _, _, rfl, rfl, h2, n.off, n.z, r⟩))⟩
  · rename_i l e
    have s := R.sl i _ e
    generalize hx : σ[i]? = x at s
    cases s with
    | od n h2 m r => exact ⟨_, hx, h _ w (.refl R.ok) (.inr (.inr ⟨_, _, _, _, rfl, rfl, h2, n.off, n.z, m, r⟩))⟩
  · exact h.elim
theorem ev_C {v : V} {d : D} (r : ∀ w, Rv C.k.K w v d) : Ev C (rD C.k) (tC v) (eC d) := ⟨fun w0 w ρ σ Q R h => h _ w (.refl R.ok) (r w)⟩
theorem de_int {i : Int} {j : Nat} : DE C (.Constant (.int i) j pos) (eC (.int i)) := ⟨_, fun X h => pe_int, ev_C fun _ => .int i⟩
theorem de_bl {b : Bool} {j : Nat} : DE C (.Constant (.bool b) j pos) (eC (.bl b)) := ⟨_, fun X h => pe_bl, ev_C fun _ => .bl b⟩
theorem de_non {j : Nat} : DE C (.Constant .none j pos) (eC .non) := ⟨_, fun X h => pe_non, ev_C fun _ => .non⟩
theorem de_str {x : Str} {j : Nat} : DE C (.Constant (.str x) j pos) (eC (.str x)) := ⟨_, fun X h => pe_str, ev_C fun _ => .str x⟩
def glB (sc : Scope) (x : Str) : Bool := match sc.names.lookup x with
  | some .globalImplicit => true
  | _ => false
theorem CtxOk.gl {X : Cx} (h : CtxOk C X) {x : Str} (g : glB C.sc x = true) : Gl X x := by
  show X.env.scope.names.lookup x = _
  rw [h.sc]
  unfold glB at g
  split at g
  · assumption
  · cases g
/-- a constant of the module -/
theorem de_glob {x : Str} {v : V} {u : Value} {d : D} (hm : C.k.mg x = some u) (r : RelV v u) (rv : ∀ w, Rv C.k.K w v d) (hg : glB C.sc x = true := by rfl) (hd : (x == ("__debug__" : Str)) = false := by decide +kernel) : DE C (.Name x pos) (eC d) :=
  ⟨_, fun X h => pe_glob (h.gl hg) (by rw [h.mg]; exact hm) r hd, ev_C rv⟩
end
end Dl
set_option Elab.async false
set_option linter.all false
set_option maxRecDepth 100000
set_option maxHeartbeats 1000000
namespace Dl
open PySem PySem.Spec PyProof.Rows L2
/-- the longest list that is made here -/
abbrev lim : Nat := 1000000
theorem lim_le : lim ≤ sizeLine := by rw [sizeLine_eq]; decide
def op {γ : Type} (x : Option γ) (g : G) : Re γ := match x with
  | some d => .ok d g
  | none => .bad
/-! ### looked-at values -/
section
variable {K : PySem.W.Frag} {w w' : Wd} {v : V}
theorem Bv.grow {d : D} (b : Bv K w v d) (e : Grow w w') : Bv K w' v d := by
  rcases b with r | ⟨a, xs, ds, h1, h2, h3, f, z, r⟩ | ⟨a, xs, ks, vs, h1, h2, h3, f, z, q, r⟩
  · exact .inl (r.grow e)
  · obtain ⟨k1, k2⟩ := e.keep a _ h3 f
    exact .inr (.inl ⟨a, xs, ds, h1, h2, k1, f.grow e h3, k2 z, r.grow e⟩)
  · obtain ⟨k1, k2⟩ := e.keep a _ h3 f
    exact .inr (.inr ⟨a, xs, ks, vs, h1, h2, k1, f.grow e h3, k2 z, q, r.grow e⟩)
theorem Bv.int {i : Int} (b : Bv K w v (.int i)) : v = .int i := by
  rcases b with r | ⟨_, _, _, _, h2, _⟩ | ⟨_, _, _, _, _, h2, _⟩
  · cases r; rfl
  · cases h2
  · cases h2
theorem Bv.bl {i : Bool} (b : Bv K w v (.bl i)) : v = .bl i := by
  rcases b with r | ⟨_, _, _, _, h2, _⟩ | ⟨_, _, _, _, _, h2, _⟩
  · cases r; rfl
  · cases h2
  · cases h2
theorem Bv.str {i : Str} (b : Bv K w v (.str i)) : v = .str i := by
  rcases b with r | ⟨_, _, _, _, h2, _⟩ | ⟨_, _, _, _, _, h2, _⟩
  · cases r; rfl
  · cases h2
  · cases h2
theorem Bv.non (b : Bv K w v .non) : v = .non := by
  rcases b with r | ⟨_, _, _, _, h2, _⟩ | ⟨_, _, _, _, _, h2, _⟩
  · cases r; rfl
  · cases h2
  · cases h2
theorem Bv.tup {ds : List D} (o : Wok w) (b : Bv K w v (.tup ds)) : ∃ a xs, v = .ref a ∧ TupR K w.H a xs ∧ RvL K w xs ds ∧ Rv K w v (.tup ds) := by
  rcases b with r | ⟨_, _, _, _, h2, _⟩ | ⟨_, _, _, _, _, h2, _⟩
  · have r0 := r
    cases r with
    | tup h l => exact ⟨_, _, rfl, h.same o.sub, l, r0⟩
  · cases h2
  · cases h2
theorem Bv.lst {ds : List D} (o : Wok w) (b : Bv K w v (.lst ds)) : ∃ a xs, v = .ref a ∧ w.H a = some (.lst xs) ∧ RvL K w xs ds := by
  rcases b with r | ⟨a, xs, l, h1, h2, h3, _, _, r⟩ | ⟨_, _, _, _, _, h2, _⟩
  · cases r with
    | lst h l => exact ⟨_, _, rfl, o.sub _ _ h, l⟩
  · cases h2
    exact ⟨_, _, h1, h3, r⟩
  · cases h2
theorem Bv.dic {ks vs : List D} (o : Wok w) (b : Bv K w v (.dic ks vs)) : ∃ a xs, v = .ref a ∧ w.H a = some (.dK xs) ∧ ks = xs.map (fun p => kD p.1) ∧ RvL K w (xs.map (·.2)) vs := by
  rcases b with r | ⟨_, _, _, _, h2, _⟩ | ⟨a, xs, ks, vs, h1, h2, h3, f, z, q, r⟩
  · cases r with
    | dic h q l => exact ⟨_, _, rfl, o.sub _ _ h, q, l⟩
  · cases h2
  · cases h2
    exact ⟨_, _, h1, h3, q, r⟩
theorem Bv.scr {ns : List Int} (o : Wok w) (b : Bv K w v (.scr ns)) : ∃ a, v = .ref a ∧ SqL K w.H a (ns.map V.int) := by
  rcases b with r | ⟨_, _, _, _, h2, _⟩ | ⟨_, _, _, _, _, h2, _⟩
  · cases r with
    | scr h => exact ⟨_, rfl, o.sub.seq h⟩
  · cases h2
  · cases h2
end
/-! ### new tuples -/
/-- a new tuple of xs -/
def NewT (xs : List V) (H : Hp) (Q : VK) : Prop := ∀ (p : Addr) (o : Obj), H p = none → o.dict = none → Q (.ref p) (upd H p (.frz o (.tup xs)))
theorem layT {X : Cx} {pins : List (Addr × Obj)} {σ : L2.St} {H : Hp} {s : Shared} {xs : List V} {its : List Value} {Q : VK} (I : Inv X pins σ H s) (r : Vals xs its) (z : xs.length ≤ sizeLine) (q : NewT xs H Q) :
    EP X pins σ Q (.ref s.heap.objs.size) { s with heap := s.heap.push { cls := .type "tuple", data := .seq its.toArray } } := by
  have g : (s.heap.push { cls := .type "tuple", data := .seq its.toArray }).get? s.heap.objs.size = some { cls := .type "tuple", data := .seq its.toArray } := Heap.get?_push_size _ rfl
  exact ⟨.ref s.heap.objs.size, _, I.laid (t' := s.toks) (o := .frz { cls := .type "tuple", data := .seq its.toArray } (.tup xs)) (fun b u e => Heap.get?_push_of_some _ e) (Nat.le_refl _) ⟨g, z, its, r, IsTup.new _ _⟩, rfl, q _ _ (I.hok.fresh (Nat.le_refl _)) rfl⟩
theorem pe_tupN {X : Cx} {es : List Expr} {x1 : Nat} {pos : Pos} {t : TA} (h : PA X es t) : PE X (.Tuple es x1 pos) (fun σ H Q => t σ H fun xs H1 => xs.length ≤ sizeLine ∧ NewT xs H1 Q) := by
  refine ⟨fun pins s σ H Q I hq => ?_⟩
  exact wpAny_Tuple_spliced (thn (h.run pos pins s σ H _ I hq) fun us s1 ⟨xs, H1, I1, r, z, q⟩ => ⟨by rw [← r.length]; exact z, layT I1 r z q⟩)
theorem call_tupN {X : Cx} : CallR X (.type "tuple") (fun xs H Q => ∃ p ys, xs = [.ref p] ∧ ((SqL X.K H p ys ∧ NewT ys H Q) ∨ (SqT X.K H p ys ∧ Q (.ref p) H))) := by
  intro pins s σ H xs us Q I r h
  obtain ⟨p, ys, rfl, h⟩ := h
  obtain ⟨u, rfl, rx⟩ := vals1 r
  cases rx
  rcases h with ⟨hq, q⟩ | ⟨hq, q⟩
  · obtain ⟨its, r', pl, hz⟩ := I.list hq
    have e := r'.length
    exact call_tuple_list pl.isList (fun h' kp => layT (I.kept (t' := s.toks) kp) r' hz q) (by simp only [List.size_toArray]; omega)
  · obtain ⟨its, _, pl, _⟩ := I.tuple hq
    exact call_tuple_same pl ⟨.ref p, H, I, rfl, q⟩
def rCatN (K : PySem.W.Frag) : R2 := fun x y H Q => ∃ a b xs ys, x = .ref a ∧ y = .ref b ∧ SqT K H a xs ∧ SqT K H b ys ∧ xs.length + ys.length ≤ sizeLine ∧
  (xs = [] → Q (.ref b) H) ∧ (xs ≠ [] → ys = [] → Q (.ref a) H) ∧ (xs ≠ [] → ys ≠ [] → NewT (xs ++ ys) H Q)
theorem op_catN {X : Cx} : OpR X (binaryOp .Add) (rCatN X.K) := by
  intro pins s σ H x y v u Q I rx ry h
  obtain ⟨a, b, xs, ys, rfl, rfl, ha, hb, hz, q0, q1, q2⟩ := h
  cases rx
  cases ry
  obtain ⟨its, r1, p1, _⟩ := I.tuple ha
  obtain ⟨jts, r2, p2, _⟩ := I.tuple hb
  by_cases hx : xs = []
  · subst hx
    cases r1
    exact cat_tup0 p1 p2 ⟨.ref b, H, I, rfl, q0 rfl⟩
  · refine HT.cat_tup p1 p2 (fun z => hx (r1.nil_iff.mp z)) (fun z => ⟨.ref a, H, I, rfl, q1 hx (r2.nil_iff.mp z)⟩) (fun z => ?_) (by rw [← r1.length, ← r2.length]; exact hz)
    exact layT I (r1.append r2) (by rw [List.length_append]; exact hz) (q2 hx fun w => z (r2.nil_iff.mpr w))
def rSlN (K : PySem.W.Frag) : V → Option Int → Option Int → Hp → VK → Prop := fun x lo hi H Q => ∃ a xs, x = .ref a ∧ SqT K H a xs ∧
  (HT.sIx xs.length 0 lo = 0 ∧ HT.sIx xs.length xs.length hi = xs.length → Q (.ref a) H) ∧ (¬ (HT.sIx xs.length 0 lo = 0 ∧ HT.sIx xs.length xs.length hi = xs.length) → NewT (cutV xs lo hi) H Q)
theorem sl_tupN {X : Cx} : SlR X (rSlN X.K) := by
  intro pins s σ H x v vl vu lo hi sl Q I rx hs pl pu h
  obtain ⟨a, xs, rfl, hx, q1, q2⟩ := h
  cases rx
  obtain ⟨its, r, ht, hz⟩ := I.tuple hx
  have hlen : its.toArray.size = xs.length := by rw [List.size_toArray]; exact r.length.symm
  refine ⟨"tuple", _, PyProof.Rows.slot_tuple_getitem.lookup, ht.typeIs, ?_⟩
  by_cases hw : HT.sIx xs.length 0 lo = 0 ∧ HT.sIx xs.length xs.length hi = xs.length
  · exact getItem_tuple_whole ht hs pl pu (by rw [hlen]; exact hw) ⟨.ref a, H, I, rfl, q1 hw⟩
  · refine HT.getItem_tuple_cut ht hs pl pu (by rw [hlen]; exact hw) ?_ (by rw [hlen]; exact hz)
    rw [hlen]
    exact layT I ((r.drop (HT.sIx xs.length 0 lo)).take (HT.sIx xs.length xs.length hi - HT.sIx xs.length 0 lo)) (Nat.le_trans (cutV_length xs lo hi) hz) (q2 hw)
/-! ### two-place operations -/
def eOp {γ : Type} (F : D → D → G → Re γ) (fa fb : Me D) : Me γ := fun ρ g => (fa ρ g).bind fun x g => (fb ρ g).bind fun y g => F x y g
def R2ok (C : Ctx) {γ : Type} (RR : Wd → Wd → V → γ → Prop) (r : R2) (F : D → D → G → Re γ) : Prop :=
  ∀ w σ x y v u Q, Wok w → Bv C.k.K w v x → Bv C.k.K w u y → Po C.k C.W RR w σ Q (F x y w.g) → r v u w.H Q
section
variable {C : Ctx} {pos : Pos} {a b c : Expr} {fa fb fc : Me D}
theorem ev_op {γ : Type} {RR : Wd → Wd → V → γ → Prop} (L : Lft RR) {r : R2} {F : D → D → G → Re γ} {ta tb : TE} (hr : R2ok C RR r F) (ha : Ev C (rB C.k) ta fa) (hb : Ev C (rB C.k) tb fb) : Ev C RR (tOp r ta tb) (eOp F fa fb) :=
  ⟨fun w0 w ρ σ Q R h => ha.run w0 w ρ σ _ R (Po.bind L h fun x v w1 e g1 o1 ra h1 => hb.run w0 w1 ρ σ _ (R.step g1 o1) (Po.bind L h1 fun y u w2 e2 g2 o2 rb h2 => hr w2 σ x y v u Q o2 (ra.grow g2) rb h2))⟩
theorem dx_bin {γ : Type} {RR : Wd → Wd → V → γ → Prop} (L : Lft RR) {o : Operator} {r : R2} {F : D → D → G → Re γ} (ho : ∀ X, CtxOk C X → OpR X (binaryOp o) r) (hr : R2ok C RR r F) (ha : DB C a fa) (hb : DB C b fb) : DX C RR (.BinOp a o b pos) (eOp F fa fb) := by
  obtain ⟨ta, pa, va⟩ := ha
  obtain ⟨tb, pb, vb⟩ := hb
  exact ⟨_, fun X h => pe_op (ho X h) (pa X h) (pb X h), ev_op L hr va vb⟩
/-- ints -/
def arI (f : Int → Int → Option Int) : D → D → G → Re D
  | .int i, .int j, g => op ((f i j).map D.int) g
  | _, _, _ => .bad
theorem r2_int {Cn : Int → Int → Prop} {h : Int → Int → Int} {f : Int → Int → Option Int} (hf : ∀ i j k, f i j = some k → Cn i j ∧ k = h i j) : R2ok C (rD C.k) (rI Cn fun i j => .int (h i j)) (arI f) := by
  intro w σ x y v u Q o bx by_ p
  unfold arI at p
  split at p
  · rename_i g i j
    cases e : f i j with
    | none => rw [e] at p; exact p.elim
    | some k =>
      rw [e] at p
      obtain ⟨h1, h2⟩ := hf i j k e
      subst h2
      exact ⟨i, j, bx.int, by_.int, h1, p _ w (.refl o) (.int _)⟩
  · exact p.elim
def subI (i j : Int) : Option Int := some (i - j)
def mulI (i j : Int) : Option Int := if i.natAbs.log2 + j.natAbs.log2 < 1000000 then some (i * j) else none
def divI (i j : Int) : Option Int := if 0 < j ∧ j.natAbs.log2 < 9000 then some (i / j) else none
def modI (i j : Int) : Option Int := if 0 < j then some (i % j) else none
theorem de_sub (ha : DB C a fa) (hb : DB C b fb) : DE C (.BinOp a .Sub b pos) (eOp (arI subI) fa fb) :=
  dx_bin (lft_D _) (r := rI (fun _ _ => True) fun i j => .int (i - j)) (fun X h => opI fun _ _ _ _ _ _ _ _ q => sub_int q) (r2_int fun i j k e => ⟨trivial, by unfold subI at e; cases e; rfl⟩) ha hb
theorem de_div (ha : DB C a fa) (hb : DB C b fb) : DE C (.BinOp a .FloorDiv b pos) (eOp (arI divI) fa fb) :=
  dx_bin (lft_D _) (fun X h => op_fdivW) (r2_int fun i j k e => by
    unfold divI at e
    split at e
    · rename_i q; cases e; exact ⟨q, rfl⟩
    · cases e) ha hb
theorem de_mod (ha : DB C a fa) (hb : DB C b fb) : DE C (.BinOp a .Mod b pos) (eOp (arI modI) fa fb) :=
  dx_bin (lft_D _) (fun X h => op_mod) (r2_int fun i j k e => by
    unfold modI at e
    split at e
    · rename_i q; cases e; exact ⟨q, rfl⟩
    · cases e) ha hb
theorem new_tup {k : Kt} {W : WX} {w : Wd} {σ : Sg} {Q : VK} {xs : List V} {ds : List D} (o : Wok w) (r : RvL k.K w xs ds) (h : Po k W (rD k) w σ Q (.ok (.tup ds) w.g)) : NewT xs w.H Q := fun p ob hp hd =>
  h (.ref p) { w with Z := upd w.Z p (.frz ob (.tup xs)), H := upd w.H p (.frz ob (.tup xs)) } (.lay o hp) (.tup (.inl ⟨ob, upd_same, hd⟩) (r.mono (.put (none_of_sub o hp))))
theorem new_lst {k : Kt} {W : WX} {w : Wd} {σ : Sg} {Q : VK} {xs : List V} {ds : List D} (o : Wok w) (r : RvL k.K w xs ds) (h : Po k W (rD k) w σ Q (.ok (.lst ds) w.g)) : ∀ p, w.H p = none → Q (.ref p) (upd w.H p (.lst xs)) := fun p hp =>
  h (.ref p) { w with Z := upd w.Z p (.lst xs), H := upd w.H p (.lst xs) } (.lay o hp) (.lst upd_same (r.mono (.put (none_of_sub o hp))))
theorem new_own {k : Kt} {W : WX} {w : Wd} {σ : Sg} {Q : VK} {xs : List V} {ds : List D} (o : Wok w) (r : RvL k.K w xs ds) (h : Po k W (rF k) w σ Q (.ok ds w.g)) : ∀ p, w.H p = none → Q (.ref p) (upd w.H p (.lst xs)) := fun p hp =>
  h (.ref p) { w with H := upd w.H p (.lst xs) } (.new o hp) ⟨p, xs, rfl, .of o hp, upd_same, r.mono .of_H⟩
def addD : D → D → G → Re D
  | .int i, .int j, g => .ok (.int (i + j)) g
  | .str x, .str y, g => if x.length + y.length ≤ lim then .ok (.str (x ++ y)) g else .bad
  | .tup x, .tup y, g => if x.length + y.length ≤ lim then .ok (.tup (x ++ y)) g else .bad
  | .lst x, .lst y, g => if x.length + y.length ≤ lim then .ok (.lst (x ++ y)) g else .bad
  | _, _, _ => .bad
theorem de_add (ha : DB C a fa) (hb : DB C b fb) : DE C (.BinOp a .Add b pos) (eOp addD fa fb) := by
  refine dx_bin (lft_D _) (r := fun x y H Q => rI0 (fun i j => .int (i + j)) x y H Q ∨ ((∃ i j, x = .str i ∧ y = .str j ∧ i.length + j.length ≤ sizeLine ∧ Q (.str (i ++ j)) H) ∨ (rCatN C.k.K x y H Q ∨ rCat x y H Q)))
    (fun X h => OpR.or op_add (OpR.or op_add_str (OpR.or (by rw [← h.K]; exact op_catN) op_cat))) (fun w σ x y v u Q o bx by_ p => ?_) ha hb
  unfold addD at p
  split at p
  · exact .inl ⟨_, _, bx.int, by_.int, p _ w (.refl o) (.int _)⟩
  · split at p
    · rename_i hz
      exact .inr (.inl ⟨_, _, bx.str, by_.str, Nat.le_trans hz lim_le, p _ w (.refl o) (.str _)⟩)
    · exact p.elim
  · split at p
    · rename_i l1 l2 g hz
      obtain ⟨a1, xs, e1, s1, r1, v1⟩ := bx.tup o
      obtain ⟨a2, ys, e2, s2, r2, v2⟩ := by_.tup o
      refine .inr (.inr (.inl ⟨a1, a2, xs, ys, e1, e2, s1.sq, s2.sq, by rw [r1.length, r2.length]; exact Nat.le_trans hz lim_le, fun q => ?_, fun q q2 => ?_, fun q q2 => new_tup o (r1.append r2) p⟩))
      · subst q
        cases r1
        exact p _ w (.refl o) (by rw [← e2]; exact v2)
      · subst q2
        cases r2
        rw [List.append_nil] at p
        exact p _ w (.refl o) (by rw [← e1]; exact v1)
    · exact p.elim
  · split at p
    · rename_i l1 l2 g hz
      obtain ⟨a1, xs, e1, s1, r1⟩ := bx.lst o
      obtain ⟨a2, ys, e2, s2, r2⟩ := by_.lst o
      exact .inr (.inr (.inr ⟨a1, a2, xs, ys, e1, e2, s1, s2, by rw [r1.length, r2.length]; exact Nat.le_trans hz lim_le, new_lst o (r1.append r2) p⟩))
    · exact p.elim
  · exact p.elim
def catL : D → D → G → Re (List D)
  | .lst x, .lst y, g => if x.length + y.length ≤ lim then .ok (x ++ y) g else .bad
  | _, _, _ => .bad
theorem df_add (ha : DB C a fa) (hb : DB C b fb) : DF C (.BinOp a .Add b pos) (eOp catL fa fb) := by
  refine dx_bin (lft_F _) (fun X h => op_cat) (fun w σ x y v u Q o bx by_ p => ?_) ha hb
  unfold catL at p
  split at p
  · split at p
    · rename_i l1 l2 g hz
      obtain ⟨a1, xs, e1, s1, r1⟩ := bx.lst o
      obtain ⟨a2, ys, e2, s2, r2⟩ := by_.lst o
      exact ⟨a1, a2, xs, ys, e1, e2, s1, s2, by rw [r1.length, r2.length]; exact Nat.le_trans hz lim_le, new_own o (r1.append r2) p⟩
    · exact p.elim
  · exact p.elim
theorem RvL.rep {K : PySem.W.Frag} {w : Wd} {xs : List V} {ds : List D} (r : RvL K w xs ds) : ∀ n : Nat, RvL K w (List.replicate n xs).flatten (List.replicate n ds).flatten
  | 0 => .nil
  | n + 1 => by
    rw [List.replicate_succ, List.replicate_succ, List.flatten_cons, List.flatten_cons]
    exact r.append (RvL.rep r n)
def repOk (n : Nat) (k : Int) : Bool := decide (-(2 ^ 63) ≤ k ∧ k < 2 ^ 63 ∧ n * k.toNat ≤ lim)
/-- a tuple, told k times -/
def rTupK (K : PySem.W.Frag) : R2 := fun x y H Q => ∃ l k xs, x = .ref l ∧ y = .int k ∧ SqT K H l xs ∧ xs ≠ [] ∧ 2 ≤ k ∧ k ≤ 1000 ∧ xs.length ≤ 1000 ∧ NewT (List.replicate k.toNat xs).flatten H Q
theorem flat_len {α : Type} {its : List α} {k : Int} {m : Nat} (h1 : k ≤ 1000) (h2 : its.length = m) (h3 : m ≤ 1000) : (List.replicate k.toNat its).flatten.length ≤ sizeLine := by
  rw [PyProof.Rows.lm_len_rep_flat, h2, sizeLine_eq]
  have := Nat.mul_le_mul (show k.toNat ≤ 1000 by omega) h3
  omega
theorem op_tupK {X : Cx} : OpR X (binaryOp .Mult) (rTupK X.K) := by
  intro pins s σ H x y v u Q I rx ry ⟨l, k, xs, ex, ey, hT, hne, h1, h2, hz, q⟩
  subst ex ey
  cases rx
  obtain ⟨t, rfl⟩ := ry
  obtain ⟨its, r, ⟨⟨cls, dd, data, sl⟩, ho, hc, n, hd⟩, hs⟩ := I.tuple hT
  simp only at hc hd
  subst hc hd
  have hle : its.length = xs.length := r.length.symm
  have hi : its.toArray.isEmpty = false := by
    cases its with
    | nil => exact absurd (List.eq_nil_of_length_eq_zero hle.symm) hne
    | cons a b => rfl
  have zs : its.toArray.size = xs.length := by rw [List.size_toArray, hle]
  have hm : ((its.toArray.size : Nat) : Int) * k ≤ 1000000 := by
    rw [zs]
    have := Int.mul_le_mul_of_nonneg_right (a := (xs.length : Int)) (b := 1000) (c := k) (by omega) (by omega)
    omega
  have fl := flat_len (its := its) h2 hle hz
  have d0 : (decide (k < -(2 ^ 63)) || decide (k ≥ 2 ^ 63)) = false := by simp; omega
  have d1 : (its.toArray.isEmpty || k == 1) = false := by rw [hi]; simp; omega
  have d2 : (decide (k ≤ 0) || its.toArray.isEmpty) = false := by rw [hi]; simp; omega
  have d4 : Builtin.Tuple.tupleTooMany (((its.toArray.size : Nat) : Int) * k) = false := by
    unfold Builtin.Tuple.tupleTooMany
    rw [sizeLine_eq]
    simp
    simp at hm
    omega
  have tT : s.TypeIs (.ref l) "tuple" := ⟨_, ho, rfl⟩
  refine wpAny_binaryOp_repeat_ref (T := "tuple") (U := "int") (by decide) tT (fun s' => typeIs_int s' k t) noFill_tuple_mul F.fills_int_mul F.slot_int_rmul repeat_tuple F.slot_int_index.lookup ?_
  refine call_meets F.slot_int_rmul (typeIs_int s k t) F.entry_int_rmul (F.args_int_rmul_2 _ _) (int_rmul_tuple k t l its.toArray n dd sl) ⟨ho, rfl, tT, ?_⟩
  refine call_meets F.slot_tuple_mul tT F.entry_tuple_mul (F.args_tuple_mul_2 _ _) (tuple_mulW l its.toArray n dd sl k t d0 d1 d2 (by omega) d4 (by rw [size_rep, List.size_toArray]; exact fl)) ⟨ho, ?_⟩
  rw [size_rep]
  exact layT I (r.rep k.toNat) (flat_len h2 rfl hz) q
/-- t * 1 is t -/
theorem tuple_mul1 (l : Addr) (items : Array Value) (n : Nat) (dd : Option Addr) (sl : Array (Option Value)) (u : Tok) :
    Meets (Builtin.«tuple.__mul__» ⟨[.ref l, .int 1 u], []⟩) (fun _ R s => s.heap.get? l = some { cls := .type "tuple", dict := dd, data := .seq items n, slots := sl } ∧ R (.ok (.ret (Value.ref l))) s) :=
  .of_wp fun prog w A R s h => by
    obtain ⟨hp, g, d, tk, os⟩ := s
    obtain ⟨hl, h⟩ := h
    have f1 := AutoSeq1.idx_int
    have c1 : (items.isEmpty || (1 : Int) == 1) = true := by simp
    wp_walk using wpAny_loadPart' hl
    repeat (first
      | (refine wpAny_ite_false (decide_eq_false (by decide)) ?_; wp_walk using wpAny_loadPart' hl)
      | (refine wpAny_ite_true (decide_eq_true c1) ?_; wp_walk using wpAny_loadPart' hl))
    exact ⟨_, rfl, h⟩
theorem tuple_mul0 (l : Addr) (items : Array Value) (n : Nat) (dd : Option Addr) (sl : Array (Option Value)) (u : Tok) (hi : items.isEmpty = false) :
    Meets (Builtin.«tuple.__mul__» ⟨[.ref l, .int 0 u], []⟩) (fun _ R s => s.heap.get? l = some { cls := .type "tuple", dict := dd, data := .seq items n, slots := sl } ∧
      R (.ok (.ret (Value.ref s.heap.objs.size))) { s with heap := s.heap.push { cls := Value.type "tuple", data := Data.seq #[] }, toks := s.toks }) :=
  .of_wp fun prog w A R s h => by
    obtain ⟨hp, g, d, tk, os⟩ := s
    obtain ⟨hl, h⟩ := h
    have f1 := AutoSeq1.idx_int
    have c1 : (items.isEmpty || (0 : Int) == 1) = false := by rw [hi]; decide
    have c2 : (decide ((0 : Int) ≤ 0) || items.isEmpty) = true := by rw [hi]; decide
    wp_walk using wpAny_loadPart' hl
    repeat (first
      | (refine wpAny_ite_false (decide_eq_false (by decide)) ?_; wp_walk using wpAny_loadPart' hl)
      | (refine wpAny_ite_false (decide_eq_false (by rw [c1]; exact Bool.false_ne_true)) ?_; wp_walk using wpAny_loadPart' hl)
      | (refine wpAny_ite_true (decide_eq_true c2) ?_; wp_walk using wpAny_loadPart' hl))
    exact ⟨_, rfl, h⟩
def rTup1 (K : PySem.W.Frag) : R2 := fun x y H Q => ∃ l xs, x = .ref l ∧ y = .int 1 ∧ SqT K H l xs ∧ Q x H
def rTup0 (K : PySem.W.Frag) : R2 := fun x y H Q => ∃ l xs, x = .ref l ∧ y = .int 0 ∧ SqT K H l xs ∧ xs ≠ [] ∧ NewT [] H Q
theorem op_tup1 {X : Cx} : OpR X (binaryOp .Mult) (rTup1 X.K) := by
  intro pins s σ H x y v u Q I rx ry ⟨l, xs, ex, ey, hT, q⟩
  subst ex ey
  cases rx
  obtain ⟨t, rfl⟩ := ry
  obtain ⟨its, r, ⟨⟨cls, dd, data, sl⟩, ho, hc, n, hd⟩, hs⟩ := I.tuple hT
  simp only at hc hd
  subst hc hd
  have tT : s.TypeIs (.ref l) "tuple" := ⟨_, ho, rfl⟩
  refine wpAny_binaryOp_repeat_ref (T := "tuple") (U := "int") (by decide) tT (fun s' => typeIs_int s' 1 t) noFill_tuple_mul F.fills_int_mul F.slot_int_rmul repeat_tuple F.slot_int_index.lookup ?_
  refine call_meets F.slot_int_rmul (typeIs_int s 1 t) F.entry_int_rmul (F.args_int_rmul_2 _ _) (int_rmul_tuple 1 t l its.toArray n dd sl) ⟨ho, rfl, tT, ?_⟩
  refine call_meets F.slot_tuple_mul tT F.entry_tuple_mul (F.args_tuple_mul_2 _ _) (tuple_mul1 l its.toArray n dd sl t) ⟨ho, ?_⟩
  exact ⟨V.ref l, H, I, rfl, q⟩
theorem op_tup0 {X : Cx} : OpR X (binaryOp .Mult) (rTup0 X.K) := by
  intro pins s σ H x y v u Q I rx ry ⟨l, xs, ex, ey, hT, hne, q⟩
  subst ex ey
  cases rx
  obtain ⟨t, rfl⟩ := ry
  obtain ⟨its, r, ⟨⟨cls, dd, data, sl⟩, ho, hc, n, hd⟩, hs⟩ := I.tuple hT
  simp only at hc hd
  subst hc hd
  have hle : its.length = xs.length := r.length.symm
  have hi : its.toArray.isEmpty = false := by
    cases its with
    | nil => exact absurd (List.eq_nil_of_length_eq_zero hle.symm) hne
    | cons a b => rfl
  have tT : s.TypeIs (.ref l) "tuple" := ⟨_, ho, rfl⟩
  refine wpAny_binaryOp_repeat_ref (T := "tuple") (U := "int") (by decide) tT (fun s' => typeIs_int s' 0 t) noFill_tuple_mul F.fills_int_mul F.slot_int_rmul repeat_tuple F.slot_int_index.lookup ?_
  refine call_meets F.slot_int_rmul (typeIs_int s 0 t) F.entry_int_rmul (F.args_int_rmul_2 _ _) (int_rmul_tuple 0 t l its.toArray n dd sl) ⟨ho, rfl, tT, ?_⟩
  refine call_meets F.slot_tuple_mul tT F.entry_tuple_mul (F.args_tuple_mul_2 _ _) (tuple_mul0 l its.toArray n dd sl t hi) ⟨ho, ?_⟩
  exact layT I (.nil) (Nat.zero_le _) q
def mulD : D → D → G → Re D
  | .int i, .int j, g => op ((mulI i j).map D.int) g
  | .lst l, .int k, g => if repOk l.length k = true then .ok (.lst (List.replicate k.toNat l).flatten) g else .bad
  | .tup l, .int k, g => if l ≠ [] ∧ 2 ≤ k ∧ k ≤ 1000 ∧ l.length ≤ 1000 then .ok (.tup (List.replicate k.toNat l).flatten) g else if k = 1 then .ok (.tup l) g else if k = 0 ∧ l ≠ [] then .ok (.tup []) g else .bad
  | _, _, _ => .bad
theorem de_mul (ha : DB C a fa) (hb : DB C b fb) : DE C (.BinOp a .Mult b pos) (eOp mulD fa fb) := by
  refine dx_bin (lft_D _) (r := fun x y H Q => rI CMulW (fun i j => .int (i * j)) x y H Q ∨ (rRep x y H Q ∨ (rTupK C.k.K x y H Q ∨ (rTup1 C.k.K x y H Q ∨ rTup0 C.k.K x y H Q))))
    (fun X h => OpR.or op_mulW (OpR.or op_rep (by rw [← h.K]; exact OpR.or op_tupK (OpR.or op_tup1 op_tup0)))) (fun w σ x y v u Q o bx by_ p => ?_) ha hb
  unfold mulD at p
  split at p
  · rename_i g i j
    unfold mulI at p
    split at p
    · rename_i hc
      exact .inl ⟨_, _, bx.int, by_.int, hc, p _ w (.refl o) (.int _)⟩
    · exact p.elim
  · rename_i g l k
    split at p
    · rename_i hz
      obtain ⟨z1, z2, z3⟩ := of_decide_eq_true hz
      obtain ⟨a1, xs, e1, s1, r1⟩ := bx.lst o
      exact .inr (.inl ⟨a1, k, xs, e1, by_.int, s1, z1, z2, by rw [r1.length]; exact Nat.le_trans z3 lim_le, new_lst o (r1.rep _) p⟩)
    · exact p.elim
  · rename_i g l k
    split at p
    · rename_i hz
      obtain ⟨z0, z1, z2, z3⟩ := hz
      obtain ⟨a1, xs, e1, s1, r1, _⟩ := bx.tup o
      exact .inr (.inr (.inl ⟨a1, k, xs, e1, by_.int, s1.sq, fun z => z0 (List.eq_nil_of_length_eq_zero (by rw [← r1.length, z]; rfl)), z1, z2, by rw [r1.length]; exact z3, new_tup o (r1.rep _) p⟩))
    · split at p
      · rename_i hz
        subst hz
        obtain ⟨a1, xs, e1, s1, r1, v1⟩ := bx.tup o
        exact .inr (.inr (.inr (.inl ⟨a1, xs, e1, by_.int, s1.sq, p _ w (.refl o) v1⟩)))
      · split at p
        · rename_i hz
          obtain ⟨z0, z1⟩ := hz
          subst z0
          obtain ⟨a1, xs, e1, s1, r1, _⟩ := bx.tup o
          exact .inr (.inr (.inr (.inr ⟨a1, xs, e1, by_.int, s1.sq, fun z => z1 (List.eq_nil_of_length_eq_zero (by rw [← r1.length, z]; rfl)), new_tup o .nil p⟩)))
        · exact p.elim
  · exact p.elim
def repL : D → D → G → Re (List D)
  | .lst l, .int k, g => if repOk l.length k = true then .ok (List.replicate k.toNat l).flatten g else .bad
  | _, _, _ => .bad
theorem df_mul (ha : DB C a fa) (hb : DB C b fb) : DF C (.BinOp a .Mult b pos) (eOp repL fa fb) := by
  refine dx_bin (lft_F _) (fun X h => op_rep) (fun w σ x y v u Q o bx by_ p => ?_) ha hb
  unfold repL at p
  split at p
  · rename_i g l k
    split at p
    · rename_i hz
      obtain ⟨z1, z2, z3⟩ := of_decide_eq_true hz
      obtain ⟨a1, xs, e1, s1, r1⟩ := bx.lst o
      exact ⟨a1, k, xs, e1, by_.int, s1, z1, z2, by rw [r1.length]; exact Nat.le_trans z3 lim_le, new_own o (r1.rep _) p⟩
    · exact p.elim
  · exact p.elim
/-! ### one-place operations -/
def eUn {γ : Type} (F : D → G → Re γ) (fa : Me D) : Me γ := fun ρ g => (fa ρ g).bind fun x g => F x g
theorem ev_un {γ : Type} {RR : Wd → Wd → V → γ → Prop} (L : Lft RR) {t : TE} {F : D → G → Re γ} {ta : TE} {r : V → Hp → VK → Prop} (ht : t = fun σ H Q => ta σ H fun x H1 => r x H1 Q)
    (hr : ∀ w σ x v Q, Wok w → Bv C.k.K w v x → Po C.k C.W RR w σ Q (F x w.g) → r v w.H Q) (ha : Ev C (rB C.k) ta fa) : Ev C RR t (eUn F fa) := by
  subst ht
  exact ⟨fun w0 w ρ σ Q R h => ha.run w0 w ρ σ _ R (Po.bind L h fun x v w1 e g1 o1 ra h1 => hr w1 σ x v Q o1 ra h1)⟩
def negD : D → G → Re D
  | .int i, g => .ok (.int (-i)) g
  | _, _ => .bad
theorem de_neg (ha : DB C a fa) : DE C (.UnaryOp .USub a pos) (eUn negD fa) := by
  obtain ⟨ta, pa, va⟩ := ha
  refine ⟨_, fun X h => pe_un un_neg (pa X h), ev_un (lft_D _) (ta := ta) (r := rU fun i => .int (-i)) rfl (fun w σ x v Q o bx p => ?_) va⟩
  unfold negD at p
  split at p
  · exact ⟨_, bx.int, p _ w (.refl o) (.int _)⟩
  · exact p.elim
/-! ### comparisons -/
def bD (x : Option Bool) (g : G) : Re D := op (x.map D.bl) g
theorem de_cmp {o : CmpOp} {r : R2} {F : D → D → G → Re D} (ho : ∀ X, CtxOk C X → OpR X (compareOp o) r) (hr : R2ok C (rD C.k) r F) (ha : DB C a fa) (hb : DB C b fb) (hm : behindInMarks o b = false) : DE C (.Compare a [o] [b] pos) (eOp F fa fb) := by
  obtain ⟨ta, pa, va⟩ := ha
  obtain ⟨tb, pb, vb⟩ := hb
  exact ⟨_, fun X h => pe_cmpR (ho X h) (pa X h) (pb X h) hm, ev_op (lft_D _) hr va vb⟩
def asB (f : Me D) : Me Bool := fun ρ g => (f ρ g).bind fun x g => match x with
  | .bl b => .ok b g
  | _ => .bad
theorem ev_test {t : TE} {f : Me D} (h : Ev C (rD C.k) t f) : Ev C rT (tTest t) (asB f) :=
  ⟨fun w0 w ρ σ Q R p => h.run w0 w ρ σ _ R (Po.bind lft_T p fun x v w1 e g1 o1 r h1 => by
    cases x with
    | bl b =>
      cases r
      exact ⟨b, rfl, h1 b w1 (.refl o1) rfl⟩
    | _ => exact h1.elim)⟩
theorem dt_cmp {o : CmpOp} {r : R2} {F : D → D → G → Re D} (ho : ∀ X, CtxOk C X → OpR X (compareOp o) r) (hr : R2ok C (rD C.k) r F) (ha : DB C a fa) (hb : DB C b fb) (hm : behindInMarks o b = false) : DT C (.Compare a [o] [b] pos) (asB (eOp F fa fb)) := by
  obtain ⟨ta, pa, va⟩ := ha
  obtain ⟨tb, pb, vb⟩ := hb
  exact ⟨_, fun X h => pt_cmpR (ho X h) (pa X h) (pb X h) hm, ev_test (ev_op (lft_D _) hr va vb)⟩
/-- a comparison's rule -/
structure Cmp (C : Ctx) (o : CmpOp) (r : R2) (F : D → D → G → Re D) : Prop where
  ho : ∀ X, CtxOk C X → OpR X (compareOp o) r
  hr : R2ok C (rD C.k) r F
def cmI (f : Int → Int → Bool) : D → D → G → Re D
  | .int i, .int j, g => .ok (.bl (f i j)) g
  | _, _, _ => .bad
theorem cmp_int {o : CmpOp} {f : Int → Int → Bool} (ho : ∀ X, CtxOk C X → OpR X (compareOp o) (rI0 fun i j => .bl (f i j))) : Cmp C o (rI0 fun i j => .bl (f i j)) (cmI f) where
  ho := ho
  hr := by
    intro w σ x y v u Q o bx by_ p
    unfold cmI at p
    split at p
    · exact ⟨_, _, bx.int, by_.int, p _ w (.refl o) (.bl _)⟩
    · exact p.elim
theorem c_lt : Cmp C .Lt (rI0 fun i j => .bl (decide (i < j))) (cmI fun i j => decide (i < j)) := cmp_int fun X h => op_lt
theorem c_le : Cmp C .LtE (rI0 fun i j => .bl (decide (i ≤ j))) (cmI fun i j => decide (i ≤ j)) := cmp_int fun X h => op_le
theorem c_gt : Cmp C .Gt (rI0 fun i j => .bl (decide (j < i))) (cmI fun i j => decide (j < i)) := cmp_int fun X h => op_gt
theorem c_ge : Cmp C .GtE (rI0 fun i j => .bl (decide (j ≤ i))) (cmI fun i j => decide (j ≤ i)) := cmp_int fun X h => op_ge
theorem Cmp.e {o : CmpOp} {r : R2} {F : D → D → G → Re D} (k : Cmp C o r F) (ha : DB C a fa) (hb : DB C b fb) (hm : behindInMarks o b = false := by rfl) : DE C (.Compare a [o] [b] pos) (eOp F fa fb) := de_cmp k.ho k.hr ha hb hm
theorem Cmp.t {o : CmpOp} {r : R2} {F : D → D → G → Re D} (k : Cmp C o r F) (ha : DB C a fa) (hb : DB C b fb) (hm : behindInMarks o b = false := by rfl) : DT C (.Compare a [o] [b] pos) (asB (eOp F fa fb)) := dt_cmp k.ho k.hr ha hb hm
end
end Dl
set_option Elab.async false
set_option linter.all false
set_option maxRecDepth 100000
set_option maxHeartbeats 1000000
namespace Dl
open PySem PySem.Spec PyProof.Rows L2
/-! ### trees as the library's data -/
mutual
def D.py : D → PyData
  | .non => .none
  | .bl b => .bool b
  | .int i => .int i
  | .str x => .str x
  | .tup l => .tuple (pyL l)
  | .lst l => .list (pyL l)
  | .dic ks vs => .dict ((pyL ks).zip (pyL vs))
  | .scr _ => .none
  | .hdl => .none
def pyL : List D → List PyData
  | [] => []
  | x :: r => x.py :: pyL r
end
theorem pyL_map : ∀ l : List D, pyL l = l.map D.py
  | [] => rfl
  | x :: r => by rw [pyL, pyL_map r]; rfl
/-- plain data, nested at most n deep -/
def dn : Nat → D → Bool
  | _, .non => true
  | _, .bl _ => true
  | _, .int _ => true
  | _, .str x => PyData.strOk x
  | n + 1, .tup l => l.all (dn n)
  | n + 1, .lst l => l.all (dn n)
  | _, _ => false
/-- the depth that is let -/
abbrev deep : Nat := 40
section
variable {K : PySem.W.Frag} {w : Wd}
theorem dpAll_of : ∀ {vs : List V} {ds : List D}, RvL K w vs ds → (∀ v d, d ∈ ds → Rv K w v d → Dp K w.H v d.py) → DpAll K w.H vs (pyL ds)
  | _, _, .nil, _ => .nil
  | _, _, .cons r t, h => .cons (h _ _ List.mem_cons_self r) (dpAll_of t fun v d hd => h v d (List.mem_cons_of_mem _ hd))
theorem Rv.dp (o : Wok w) : ∀ (n : Nat) (v : V) (d : D), dn n d = true → Rv K w v d → Dp K w.H v d.py := by
  intro n
  induction n with
  | zero =>
    intro v d h r
    cases r with
    | non => exact .non
    | bl b => exact .bl b
    | int i => exact .int i
    | str x => exact .str x
    | _ => cases h
  | succ n ih =>
    intro v d h r
    cases r with
    | non => exact .non
    | bl b => exact .bl b
    | int i => exact .int i
    | str x => exact .str x
    | tup hs l => exact .tup (hs.same o.sub).sq (dpAll_of l fun v d hd r => ih v d (List.all_eq_true.mp h d hd) r)
    | lst hs l => exact .lst (.inl (.inl (o.sub _ _ hs))) (dpAll_of l fun v d hd r => ih v d (List.all_eq_true.mp h d hd) r)
    | _ => cases h
theorem Bv.dp (o : Wok w) {n : Nat} {v : V} {d : D} (h : dn n d = true) (b : Bv K w v d) : Dp K w.H v d.py := by
  rcases b with r | ⟨a, xs, ds, h1, h2, h3, f, z, r⟩ | ⟨_, _, _, _, h1, h2, _⟩
  · exact r.dp o n v d h
  rotate_left
  · subst h1 h2; cases n <;> cases h
  · subst h1 h2
    cases n with
    | zero => cases h
    | succ n => exact .lst (.inl (.inl h3)) (dpAll_of r fun v d hd r => r.dp o n v d (List.all_eq_true.mp h d hd))
end
theorem canL_of : ∀ {l : List D}, (∀ d ∈ l, d.py.canLay0 = true) → PyData.canLayAll0 (pyL l) = true
  | [], _ => rfl
  | x :: r, h => by
    rw [pyL, PyData.canLayAll0, h x List.mem_cons_self, canL_of fun d hd => h d (List.mem_cons_of_mem _ hd)]
    rfl
theorem depL_of {n : Nat} : ∀ {l : List D}, (∀ d ∈ l, d.py.depth ≤ n) → PyData.depthAll (pyL l) ≤ n
  | [], _ => by rw [pyL]; exact Nat.zero_le _
  | x :: r, h => by
    have h1 := h x List.mem_cons_self
    have h2 := depL_of (n := n) fun d hd => h d (List.mem_cons_of_mem _ hd)
    rw [pyL, PyData.depthAll]
    omega
theorem dn_py : ∀ (n : Nat) (d : D), dn n d = true → d.py.canLay0 = true ∧ d.py.depth ≤ n := by
  intro n
  induction n with
  | zero =>
    intro d h
    cases d with
    | dic ks vs => cases h
    | _ => first | exact ⟨rfl, by simp [D.py, PyData.depth]⟩ | exact ⟨h, by simp [D.py, PyData.depth]⟩ | cases h
  | succ n ih =>
    intro d h
    cases d with
    | tup l =>
      refine ⟨?_, ?_⟩
      · rw [D.py, PyData.canLay0]; exact canL_of fun d hd => (ih d (List.all_eq_true.mp h d hd)).1
      · rw [D.py, PyData.depth]
        have := depL_of (n := n) fun d hd => (ih d (List.all_eq_true.mp h d hd)).2
        omega
    | lst l =>
      refine ⟨?_, ?_⟩
      · rw [D.py, PyData.canLay0]; exact canL_of fun d hd => (ih d (List.all_eq_true.mp h d hd)).1
      · rw [D.py, PyData.depth]
        have := depL_of (n := n) fun d hd => (ih d (List.all_eq_true.mp h d hd)).2
        omega
    | dic ks vs => cases h
    | _ => first | exact ⟨rfl, by simp [D.py, PyData.depth]⟩ | exact ⟨h, by simp [D.py, PyData.depth]⟩ | cases h
theorem dn_shaped {d : D} (h : dn deep d = true) : SeqAt.shaped d.py = true := by
  obtain ⟨h1, h2⟩ := dn_py deep d h
  unfold SeqAt.shaped
  rw [h1, Bool.true_and]
  exact decide_eq_true (Nat.le_trans h2 (by decide))
/-- Python's == -/
def eqD (a b : D) : Bool := PyData.eqv a.py b.py
section
variable {C : Ctx} {pos : Pos} {a b c e : Expr} {es rest : List Expr} {fa fb fc : Me D}
def eqF : D → D → G → Re D
  | .str x, .str y, g => .ok (.bl (eqD (.str x) (.str y))) g
  | .dic ks _, .dic [] _, g => .ok (.bl ks.isEmpty) g
  | x, y, g => if dn deep x && dn deep y then .ok (.bl (eqD x y)) g else .bad
def neF : D → D → G → Re D
  | .str x, .str y, g => .ok (.bl (!eqD (.str x) (.str y))) g
  | .dic ks _, .dic [] _, g => .ok (.bl (!ks.isEmpty)) g
  | x, y, g => if dn deep x && dn deep y then .ok (.bl (!eqD x y)) g else .bad
theorem eqD_str (x y : Str) : eqD (.str x) (.str y) = (x == y) := by
  first
    | rfl
    | (unfold eqD; simp [D.py, PyData.eqv])
theorem CtxOk.u64 {X : Cx} (h : CtxOk C X) : X.A.units + 64 < cLine := h.room.units
theorem CtxOk.u65 {X : Cx} (h : CtxOk C X) : X.A.units + 65 < cLine := by have := h.room.un; omega
def rEq0 : R2 := fun x y H Q => ∃ a b ks, x = .ref a ∧ y = .ref b ∧ H a = some (.dK ks) ∧ H b = some (.dK []) ∧ Q (.bl ks.isEmpty) H
def rNe0 : R2 := fun x y H Q => ∃ a b ks, x = .ref a ∧ y = .ref b ∧ H a = some (.dK ks) ∧ H b = some (.dK []) ∧ Q (.bl (!ks.isEmpty)) H
theorem len0 {α β γ : Type} {va : List α} {vb : List β} {ks : List γ} (h1 : ks.length = va.length) (h2 : 0 = vb.length) : (va.length == vb.length && true) = ks.isEmpty := by
  rw [← h1, ← h2]; cases ks <;> rfl
theorem op_eq0 {X : Cx} (hu : X.A.units < cLine) : OpR X (compareOp .Eq) rEq0 := by
  intro pins s σ H x y v u Q I rx ry h
  obtain ⟨a, b, ks, rfl, rfl, ea, eb, q⟩ := h
  obtain rfl : v = Value.ref a := rx
  obtain rfl : u = Value.ref b := ry
  obtain ⟨_, ya, va, ra, da⟩ := (show ObjOk X.prog X.w H s.heap a (.dK ks) from I.hok a _ ea)
  obtain ⟨_, yb, vb, rb, db⟩ := (show ObjOk X.prog X.w H s.heap b (.dK []) from I.hok b _ eb)
  refine PySem.W.keq_eq (knd := mixKind X.prog X.w) (r := true) ya yb da db hu (fun e => ?_) ?_
  · rw [← rb.length] at e
    rw [List.length_eq_zero_iff.mp e]
    exact .nil
  · rw [len0 ra.length rb.length]
    exact ⟨.bl _, H, I, rfl, q⟩
theorem op_ne0 {X : Cx} (hu : X.A.units < cLine) : OpR X (compareOp .NotEq) rNe0 := by
  intro pins s σ H x y v u Q I rx ry h
  obtain ⟨a, b, ks, rfl, rfl, ea, eb, q⟩ := h
  obtain rfl : v = Value.ref a := rx
  obtain rfl : u = Value.ref b := ry
  obtain ⟨_, ya, va, ra, da⟩ := (show ObjOk X.prog X.w H s.heap a (.dK ks) from I.hok a _ ea)
  obtain ⟨_, yb, vb, rb, db⟩ := (show ObjOk X.prog X.w H s.heap b (.dK []) from I.hok b _ eb)
  refine PySem.W.keq_ne (knd := mixKind X.prog X.w) (r := true) ya yb da db hu (fun e => ?_) ?_
  · rw [← rb.length] at e
    rw [List.length_eq_zero_iff.mp e]
    exact .nil
  · rw [len0 ra.length rb.length]
    exact ⟨.bl _, H, I, rfl, q⟩
theorem CtxOk.u0 {X : Cx} (h : CtxOk C X) : X.A.units < cLine := by have := h.u64; omega
theorem Bv.dic0 {K : PySem.W.Frag} {w : Wd} {v : V} {vs : List D} (o : Wok w) (b : Bv K w v (.dic [] vs)) : ∃ a, v = .ref a ∧ w.H a = some (.dK []) := by
  obtain ⟨a, xs, e, h, q, r⟩ := b.dic o
  cases xs with
  | nil => exact ⟨a, e, h⟩
  | cons x r => cases q
theorem emp_map {α β : Type} (f : α → β) (l : List α) : (l.map f).isEmpty = l.isEmpty := by cases l <;> rfl
theorem c_eq : Cmp C .Eq (fun x y H Q => (rEq x y H Q ∨ rEqD C.k.K x y H Q) ∨ rEq0 x y H Q) eqF where
  ho := fun X h => OpR.or (OpR.or op_eq (by rw [← h.K]; exact op_eqD h.u64)) (op_eq0 h.u0)
  hr := by
    intro w σ x y v u Q o bx by_ p
    unfold eqF at p
    split at p
    · refine .inl (.inl ⟨by cases bx.str; cases by_.str; rfl, ?_⟩)
      cases bx.str
      cases by_.str
      rw [eqD_str] at p
      show Q (.bl (decide (V.str _ = V.str _))) w.H
      rw [dec_str]
      exact p _ w (.refl o) (.bl _)
    · obtain ⟨a, xs, e, h, q, r⟩ := bx.dic o
      obtain ⟨b, e2, h2⟩ := by_.dic0 o
      refine .inr ⟨a, b, xs, e, e2, h, h2, ?_⟩
      rw [q, emp_map] at p
      exact p _ w (.refl o) (.bl _)
    · split at p
      · rename_i q
        rw [Bool.and_eq_true] at q
        exact .inl (.inr ⟨_, _, bx.dp o q.1, by_.dp o q.2, dn_shaped q.1, dn_shaped q.2, p _ w (.refl o) (.bl _)⟩)
      · exact p.elim
theorem c_ne : Cmp C .NotEq (fun x y H Q => (rNe x y H Q ∨ rNeD C.k.K x y H Q) ∨ rNe0 x y H Q) neF where
  ho := fun X h => OpR.or (OpR.or op_ne (by rw [← h.K]; exact op_neD h.u64)) (op_ne0 h.u0)
  hr := by
    intro w σ x y v u Q o bx by_ p
    unfold neF at p
    split at p
    · refine .inl (.inl ⟨by cases bx.str; cases by_.str; rfl, ?_⟩)
      cases bx.str
      cases by_.str
      rw [eqD_str] at p
      show Q (.bl (!decide (V.str _ = V.str _))) w.H
      rw [dec_str]
      exact p _ w (.refl o) (.bl _)
    · obtain ⟨a, xs, e, h, q, r⟩ := bx.dic o
      obtain ⟨b, e2, h2⟩ := by_.dic0 o
      refine .inr ⟨a, b, xs, e, e2, h, h2, ?_⟩
      rw [q, emp_map] at p
      exact p _ w (.refl o) (.bl _)
    · split at p
      · rename_i q
        rw [Bool.and_eq_true] at q
        exact .inl (.inr ⟨_, _, bx.dp o q.1, by_.dp o q.2, dn_shaped q.1, dn_shaped q.2, p _ w (.refl o) (.bl _)⟩)
      · exact p.elim
def D.isNon : D → Bool
  | .non => true
  | _ => false
theorem isNon_of {K : PySem.W.Frag} {w : Wd} {v : V} {d : D} (b : Bv K w v d) : decide (v = V.non) = d.isNon := by
  rcases b with r | ⟨_, _, _, h1, h2, _⟩ | ⟨_, _, _, _, h1, h2, _⟩
  · cases r <;> first | rfl | exact decide_eq_false (by intro z; cases z)
  · subst h1 h2
    exact decide_eq_false (by intro z; cases z)
  · subst h1 h2
    exact decide_eq_false (by intro z; cases z)
def isF : D → D → G → Re D
  | x, .non, g => .ok (.bl x.isNon) g
  | .bl x, .bl y, g => .ok (.bl (decide (x = y))) g
  | _, _, _ => .bad
def isntF : D → D → G → Re D
  | x, .non, g => .ok (.bl (!x.isNon)) g
  | .bl x, .bl y, g => .ok (.bl (!decide (x = y))) g
  | _, _, _ => .bad
end
end Dl
set_option Elab.async false
set_option linter.all false
set_option maxRecDepth 100000
set_option maxHeartbeats 1000000
namespace Dl
open PySem PySem.Spec PyProof.Rows L2
section
variable {C : Ctx} {pos : Pos} {a b c e : Expr} {es rest : List Expr} {fa fb fc : Me D}
theorem c_is : Cmp C .Is (fun x y H Q => (y = .non ∧ Q (.bl (decide (x = .non))) H) ∨ ∃ a b, x = .bl a ∧ y = .bl b ∧ Q (.bl (decide (a = b))) H) isF where
  ho := fun X h => OpR.or op_isN op_is_bl
  hr := by
    intro w σ x y v u Q o bx by_ p
    unfold isF at p
    split at p
    · exact .inl ⟨by_.non, by rw [isNon_of bx]; exact p _ w (.refl o) (.bl _)⟩
    · exact .inr ⟨_, _, bx.bl, by_.bl, p _ w (.refl o) (.bl _)⟩
    · exact p.elim
theorem c_isnt : Cmp C .IsNot (fun x y H Q => (y = .non ∧ Q (.bl (!decide (x = .non))) H) ∨ ∃ a b, x = .bl a ∧ y = .bl b ∧ Q (.bl (!decide (a = b))) H) isntF where
  ho := fun X h => OpR.or op_notN op_isnot_bl
  hr := by
    intro w σ x y v u Q o bx by_ p
    unfold isntF at p
    split at p
    · exact .inl ⟨by_.non, by rw [isNon_of bx]; exact p _ w (.refl o) (.bl _)⟩
    · exact .inr ⟨_, _, bx.bl, by_.bl, p _ w (.refl o) (.bl _)⟩
    · exact p.elim
/-! ### in, not in -/
def D.flat : D → Bool
  | .non => true
  | .bl _ => true
  | .int _ => true
  | .str _ => true
  | _ => false
theorem flat_V {K : PySem.W.Frag} {w : Wd} {v : V} {d : D} (r : Rv K w v d) (h : d.flat = true) : flatV v = true := by
  cases r <;> first | rfl | cases h
theorem eqV_of {K : PySem.W.Frag} {w : Wd} {v u : V} {d e : D} (r : Rv K w v d) (q : Rv K w u e) (h : d.flat = true) (k : e.flat = true) : eqV v u = eqD d e := by
  cases r <;> (first | exact absurd h Bool.false_ne_true | skip) <;> cases q <;> first | rfl | exact absurd k Bool.false_ne_true
theorem flat_all {K : PySem.W.Frag} {w : Wd} : ∀ {vs : List V} {ds : List D}, RvL K w vs ds → ds.all D.flat = true → vs.all flatV = true
  | _, _, .nil, _ => rfl
  | _, _, .cons r t, h => by
    rw [List.all_cons, Bool.and_eq_true] at h
    rw [List.all_cons, flat_V r h.1, flat_all t h.2]; rfl
theorem any_all {K : PySem.W.Frag} {w : Wd} {u : V} {e : D} (q : Rv K w u e) (k : e.flat = true) : ∀ {vs : List V} {ds : List D}, RvL K w vs ds → ds.all D.flat = true → (vs.any fun y => eqV y u) = ds.any fun z => eqD z e
  | _, _, .nil, _ => rfl
  | _, _, .cons r t, h => by
    rw [List.all_cons, Bool.and_eq_true] at h
    rw [List.any_cons, List.any_cons, eqV_of r q h.1 k, any_all q k t h.2]
def D.items : D → Option (List D)
  | .tup l => some l
  | .lst l => some l
  | _ => none
theorem Bv.items {K : PySem.W.Frag} {w : Wd} {v : V} {d : D} {l : List D} (o : Wok w) (b : Bv K w v d) (h : d.items = some l) : ∃ a xs, v = .ref a ∧ (SqL K w.H a xs ∨ SqT K w.H a xs) ∧ RvL K w xs l := by
  cases d with
  | tup ds =>
    cases h
    obtain ⟨a, xs, e, s, r, _⟩ := b.tup o
    exact ⟨a, xs, e, .inr s.sq, r⟩
  | lst ds =>
    cases h
    obtain ⟨a, xs, e, s, r⟩ := b.lst o
    exact ⟨a, xs, e, .inl (.inl (.inl s)), r⟩
  | _ => cases h
theorem Bv.flat {K : PySem.W.Frag} {w : Wd} {v : V} {d : D} (b : Bv K w v d) (h : d.flat = true) : Rv K w v d := by
  rcases b with r | ⟨_, _, _, _, h2, _⟩ | ⟨_, _, _, _, _, h2, _⟩
  · exact r
  · subst h2; cases h
  · subst h2; cases h
/-- keys of dicts -/
def kyD : D → Option Key
  | .int i => some (.inl i)
  | .str x => some (.inr x)
  | _ => none
theorem kyD_kD {x : D} {k : Key} (h : kyD x = some k) : x = kD k := by
  cases x <;> first | (cases h; rfl) | cases h
theorem kD_kyD (k : Key) : kyD (kD k) = some k := by cases k <;> rfl
theorem eqD_key (a b : Key) : eqD (kD a) (kD b) = decide (a = b) := by
  cases a with
  | inl i => cases b with
    | inl j => rw [key_ll]; rfl
    | inr y => rw [key_lr]; rfl
  | inr x => cases b with
    | inl j => rw [key_rl]; rfl
    | inr y =>
      rw [key_rr]
      show eqD (.str x) (.str y) = _
      rw [eqD_str]
      by_cases h : x = y
      · rw [decide_eq_true h]; exact beq_iff_eq.mpr h
      · rw [decide_eq_false h]; exact beq_eq_false_iff_ne.mpr h
theorem Bv.key {K : PySem.W.Frag} {w : Wd} {v : V} {k : Key} (b : Bv K w v (kD k)) : v = kV k := by
  cases k with
  | inl i => exact Bv.int b
  | inr x => exact Bv.str b
theorem kD_any (xs : List (Key × V)) (k : Key) : ((xs.map fun p => kD p.1).any fun z => eqD z (kD k)) = (valV xs k).isSome := by
  induction xs with
  | nil => rfl
  | cons p r ih =>
    rw [List.map_cons, List.any_cons, ih, eqD_key]
    unfold valV
    rw [List.find?_cons]
    by_cases h : p.1 = k
    · rw [decide_eq_true h]; rfl
    · rw [decide_eq_false h]; rfl
def dGet (ks vs : List D) (k : D) : Option D := ((ks.zip vs).find? fun p => eqD p.1 k).map (·.2)
theorem dGet_of {K : PySem.W.Frag} {w : Wd} {k : Key} : ∀ {xs : List (Key × V)} {vs : List D} {d : D}, RvL K w (xs.map (·.2)) vs → dGet (xs.map fun p => kD p.1) vs (kD k) = some d → ∃ v, valV xs k = some v ∧ Rv K w v d
  | [], _, d, r, h => by cases r; cases h
  | p :: xs, vs, d, r, h => by
    rw [List.map_cons] at r
    cases r with
    | cons r1 r2 =>
      unfold dGet at h
      rw [List.map_cons, List.zip_cons_cons, List.find?_cons] at h
      unfold valV
      rw [List.find?_cons]
      have q := eqD_key p.1 k
      by_cases z : p.1 = k
      · rw [decide_eq_true z] at q ⊢
        simp only [q, Option.map_some, Option.some.injEq] at h
        subst h
        exact ⟨p.2, rfl, r1⟩
      · rw [decide_eq_false z] at q ⊢
        simp only [q] at h
        exact dGet_of r2 h
def rDin (n : Bool) : R2 := fun x y H Q => ∃ a o, y = .ref a ∧ DGet H a x o ∧ Q (.bl (n ^^ o.isSome)) H
theorem op_din {X : Cx} (hu : X.A.units + 1 < cLine) : OpR X (compareOp .In) (rDin false) := by
  intro pins s σ H x y v u Q I rx ry h
  obtain ⟨a, o, e, g, q⟩ := h
  subst e
  cases ry
  exact d_in hu I g rx fun s' I' => ⟨.bl o.isSome, H, I', rfl, by rw [Bool.false_xor] at q; exact q⟩
theorem op_dnin {X : Cx} (hu : X.A.units + 1 < cLine) : OpR X (compareOp .NotIn) (rDin true) := by
  intro pins s σ H x y v u Q I rx ry h
  obtain ⟨a, o, e, g, q⟩ := h
  subst e
  cases ry
  exact d_notIn hu I g rx fun s' I' => ⟨.bl (!o.isSome), H, I', rfl, by rw [Bool.true_xor] at q; exact q⟩
theorem CtxOk.u1 {X : Cx} (h : CtxOk C X) : X.A.units + 1 < cLine := by have := h.u64; omega
def inF (n : Bool) : D → D → G → Re D := fun x y g => match y.items with
  | none => match y with
    | .dic ks _ => if (kyD x).isSome = true then .ok (.bl (n ^^ ks.any fun z => eqD z x)) g else .bad
    | _ => .bad
  | some l => if x.flat && l.all D.flat then .ok (.bl (n ^^ l.any fun z => eqD z x)) g else
      match y with
      | .lst _ => if dn deep x && dn deep y then .ok (.bl (n ^^ l.any fun z => eqD z x)) g else .bad
      | _ => .bad
theorem pyL_any (x : D) : ∀ l : List D, ((pyL l).any fun z => PyData.eqv z x.py) = l.any fun z => eqD z x
  | [] => rfl
  | y :: r => by rw [pyL, List.any_cons, List.any_cons, pyL_any x r]; rfl
theorem c_in : Cmp C .In (fun x y H Q => rIn C.k.K false x y H Q ∨ (rInD C.k.K x y H Q ∨ rDin false x y H Q)) (inF false) where
  ho := fun X h => OpR.or (by rw [← h.K]; exact op_in_seq) (OpR.or (by rw [← h.K]; exact op_inD h.u65) (op_din h.u1))
  hr := by
    intro w σ x y v u Q o bx by_ p
    unfold inF at p
    split at p
    · split at p
      · rename_i ks vs _
        split at p
        · rename_i q
          obtain ⟨k, hk⟩ := Option.isSome_iff_exists.mp q
          have ek := kyD_kD hk
          subst ek
          obtain ⟨a, xs, e, s, q1, r⟩ := by_.dic o
          refine .inr (.inr ⟨a, valV xs k, e, by rw [bx.key]; exact .inl ⟨xs, k, .inl s, rfl, rfl⟩, ?_⟩)
          rw [← kD_any, ← q1]
          exact p _ w (.refl o) (.bl _)
        · exact p.elim
      · exact p.elim
    · rename_i l hl
      split at p
      · rename_i q
        rw [Bool.and_eq_true] at q
        obtain ⟨a, xs, e, s, r⟩ := by_.items o hl
        have rx := bx.flat q.1
        refine .inl ⟨a, xs, e, s, flat_V rx q.1, flat_all r q.2, ?_⟩
        have p := p (.bl (l.any fun z => eqD z x)) w (.refl o) (by simp only [Bool.false_xor]; exact .bl _)
        rw [if_neg Bool.false_ne_true]
        show Q (.bl (xs.any fun y => eqV y v)) w.H
        rw [any_all rx q.1 r q.2]
        exact p
      · split at p
        · split at p
          · rename_i q
            rw [Bool.and_eq_true] at q
            cases hl
            refine .inr (.inl ⟨_, pyL l, bx.dp o q.1, by_.dp o q.2, dn_shaped q.1, dn_shaped q.2, ?_⟩)
            rw [pyL_any]
            exact p (.bl (l.any fun z => eqD z x)) w (.refl o) (by simp only [Bool.false_xor]; exact .bl _)
          · exact p.elim
        · exact p.elim
theorem c_notin : Cmp C .NotIn (fun x y H Q => rIn C.k.K true x y H Q ∨ (rNotInD C.k.K x y H Q ∨ rDin true x y H Q)) (inF true) where
  ho := fun X h => OpR.or (by rw [← h.K]; exact op_notIn_seq) (OpR.or (by rw [← h.K]; exact op_notInD h.u65) (op_dnin h.u1))
  hr := by
    intro w σ x y v u Q o bx by_ p
    unfold inF at p
    split at p
    · split at p
      · rename_i ks vs _
        split at p
        · rename_i q
          obtain ⟨k, hk⟩ := Option.isSome_iff_exists.mp q
          have ek := kyD_kD hk
          subst ek
          obtain ⟨a, xs, e, s, q1, r⟩ := by_.dic o
          refine .inr (.inr ⟨a, valV xs k, e, by rw [bx.key]; exact .inl ⟨xs, k, .inl s, rfl, rfl⟩, ?_⟩)
          rw [← kD_any, ← q1]
          exact p _ w (.refl o) (.bl _)
        · exact p.elim
      · exact p.elim
    · rename_i l hl
      split at p
      · rename_i q
        rw [Bool.and_eq_true] at q
        obtain ⟨a, xs, e, s, r⟩ := by_.items o hl
        have rx := bx.flat q.1
        refine .inl ⟨a, xs, e, s, flat_V rx q.1, flat_all r q.2, ?_⟩
        have p := p (.bl (!l.any fun z => eqD z x)) w (.refl o) (by simp only [Bool.true_xor]; exact .bl _)
        rw [if_pos rfl]
        show Q (.bl (!xs.any fun y => eqV y v)) w.H
        rw [any_all rx q.1 r q.2]
        exact p
      · split at p
        · split at p
          · rename_i q
            rw [Bool.and_eq_true] at q
            cases hl
            refine .inr (.inl ⟨_, pyL l, bx.dp o q.1, by_.dp o q.2, dn_shaped q.1, dn_shaped q.2, ?_⟩)
            rw [pyL_any]
            exact p (.bl (!l.any fun z => eqD z x)) w (.refl o) (by simp only [Bool.true_xor]; exact .bl _)
          · exact p.elim
        · exact p.elim
/-! ### chains -/
def eChain (F H : D → D → G → Re D) (fa fb fc : Me D) : Me D := fun ρ g => (fa ρ g).bind fun x g => (fb ρ g).bind fun y g => (F x y g).bind fun z g => match z with
  | .bl true => (fc ρ g).bind fun w g => H y w g
  | .bl false => .ok (.bl false) g
  | _ => .bad
theorem ev_chain {r r' : R2} {F H : D → D → G → Re D} {ta tb tc : TE} (hr : R2ok C (rD C.k) r F) (hr' : R2ok C (rD C.k) r' H) (ha : Ev C (rB C.k) ta fa) (hb : Ev C (rB C.k) tb fb) (hc : Ev C (rB C.k) tc fc) : Ev C (rD C.k) (tChain r r' ta tb tc) (eChain F H fa fb fc) :=
  ⟨fun w0 w ρ σ Q R h => ha.run w0 w ρ σ _ R (Po.bind (lft_D _) h fun x v w1 e g1 o1 ra h1 => hb.run w0 w1 ρ σ _ (R.step g1 o1) (Po.bind (lft_D _) h1 fun y u w2 e2 g2 o2 rb h2 => hr w2 σ x y v u _ o2 (ra.grow g2) rb
    (Po.bind (lft_D _) h2 fun z zv w3 e3 g3 o3 rz h3 => by
      cases z with
      | bl k =>
        cases rz
        refine ⟨k, rfl, ?_⟩
        cases k with
        | true =>
          rw [if_pos rfl]
          exact hc.run w0 w3 ρ σ _ (R.step (g1.trans (g2.trans g3)) o3) (Po.bind (lft_D _) h3 fun t tv w4 e4 g4 o4 rt h4 => hr' w4 σ y t u tv Q o4 ((rb.grow g3).grow g4) rt h4)
        | false =>
          rw [if_neg Bool.false_ne_true]
          exact h3 _ w3 (.refl o3) (.bl _)
      | _ => exact h3.elim)))⟩
theorem de_chain {o o' : CmpOp} {r r' : R2} {F H : D → D → G → Re D} (k : Cmp C o r F) (k' : Cmp C o' r' H) (ha : DB C a fa) (hb : DB C b fb) (hc : DB C c fc) (hm : lastMarks [o, o'] [b, c] = false := by with_unfolding_all rfl) : DE C (.Compare a [o, o'] [b, c] pos) (eChain F H fa fb fc) := by
  obtain ⟨ta, pa, va⟩ := ha
  obtain ⟨tb, pb, vb⟩ := hb
  obtain ⟨tc, pc, vc⟩ := hc
  exact ⟨_, fun X h => pe_chain (k.ho X h) (k'.ho X h) (pa X h) (pb X h) (pc X h) hm, ev_chain k.hr k'.hr va vb vc⟩
theorem dt_chain {o o' : CmpOp} {r r' : R2} {F H : D → D → G → Re D} (k : Cmp C o r F) (k' : Cmp C o' r' H) (ha : DB C a fa) (hb : DB C b fb) (hc : DB C c fc) (hm : lastMarks [o, o'] [b, c] = false := by with_unfolding_all rfl) : DT C (.Compare a [o, o'] [b, c] pos) (asB (eChain F H fa fb fc)) := by
  obtain ⟨ta, pa, va⟩ := ha
  obtain ⟨tb, pb, vb⟩ := hb
  obtain ⟨tc, pc, vc⟩ := hc
  exact ⟨_, fun X h => pt_chain (k.ho X h) (k'.ho X h) (pa X h) (pb X h) (pc X h) hm, ev_test (ev_chain k.hr k'.hr va vb vc)⟩
/-! ### truth; and, or, not; if .. else -/
def truD : D → Option Bool
  | .non => some false
  | .bl b => some b
  | .int i => some (i != 0)
  | .str x => if x.length ≤ lim then some ((x.length : Int) != 0) else none
  | .tup l => some (!l.isEmpty)
  | .lst l => some (!l.isEmpty)
  | .dic ks _ => some (!ks.isEmpty)
  | .scr l => some (!l.isEmpty)
  | .hdl => none
theorem RvL.empty {K : PySem.W.Frag} {w : Wd} {vs : List V} {ds : List D} (r : RvL K w vs ds) : (!vs.isEmpty) = !ds.isEmpty := by cases r <;> rfl
theorem tru_of {K : PySem.W.Frag} {w : Wd} {v : V} {d : D} {k : Bool} (o : Wok w) (b : Bv K w v d) (h : truD d = some k) : TruV K v w.H k := by
  cases d with
  | non => cases b.non; cases h; rfl
  | bl x => cases b.bl; cases h; rfl
  | int i => cases b.int; cases h; rfl
  | str x =>
    cases b.str
    simp only [truD] at h
    split at h
    · rename_i q
      exact ⟨Nat.le_trans q lim_le, (Option.some.inj h).symm⟩
    · cases h
  | tup l =>
    obtain ⟨a, xs, e, s, r, _⟩ := b.tup o
    subst e
    cases h
    exact .inr (.inl ⟨xs, s.sq, r.empty.symm⟩)
  | lst l =>
    obtain ⟨a, xs, e, s, r⟩ := b.lst o
    subst e
    cases h
    exact .inl ⟨xs, .inl (.inl s), r.empty.symm⟩
  | dic ks vs =>
    obtain ⟨a, xs, e, s, q, r⟩ := b.dic o
    subst e
    cases h
    exact .inr (.inr ⟨xs, s, by rw [q]; cases xs <;> rfl⟩)
  | scr l =>
    obtain ⟨a, e, s⟩ := b.scr o
    subst e
    cases h
    exact .inl ⟨_, s, by cases l <;> rfl⟩
  | hdl => cases h
def eTru (f : Me D) : Me Bool := fun ρ g => (f ρ g).bind fun x g => op (truD x) g
theorem dt_val (h : DB C a fa) (he : ∀ (env : PySem.Env) (whole : Sem Value), isTrue a env whole = (do let v ← whole; standAt a.pos; holding [v] (truthy v)) := by intro _ _; rfl) : DT C a (eTru fa) := by
  obtain ⟨ta, pa, va⟩ := h
  refine ⟨fun σ H Q => ta σ H fun x H' => ∃ k, TruV C.k.K x H' k ∧ Q k H', fun X h => by rw [← h.K]; exact pt_truth (pa X h) (he _), ⟨fun w0 w ρ σ Q R p => va.run w0 w ρ σ _ R (Po.bind lft_T p fun x v w1 e g1 o1 r h1 => ?_)⟩⟩
  cases q : truD x with
  | none => rw [q] at h1; exact h1.elim
  | some k =>
    rw [q] at h1
    exact ⟨k, tru_of o1 r q, h1 k w1 (.refl o1) rfl⟩
def DW (C : Ctx) (e : Expr) (f : Me Bool) : Prop := ∃ t : TT, (∀ X, CtxOk C X → PW X e t) ∧ Ev C rT t f
variable {ga gb : Me Bool}
theorem DW.t (h : DW C a ga) : DT C a ga := by
  obtain ⟨t, p, v⟩ := h
  exact ⟨t, fun X q => (p X q).pt, v⟩
theorem dw_and1 (h : DT C a ga) : DW C (.BoolOp .And [a] pos) ga := by
  obtain ⟨t, p, v⟩ := h
  exact ⟨t, fun X q => pw_and1 (p X q), v⟩
theorem dw_or1 (h : DT C a ga) : DW C (.BoolOp .Or [a] pos) ga := by
  obtain ⟨t, p, v⟩ := h
  exact ⟨t, fun X q => pw_or1 (p X q), v⟩
def tAndM (ga gb : Me Bool) : Me Bool := fun ρ g => (ga ρ g).bind fun x g => if x = true then gb ρ g else .ok false g
def tOrM (ga gb : Me Bool) : Me Bool := fun ρ g => (ga ρ g).bind fun x g => if x = true then .ok true g else gb ρ g
theorem dw_and (h : DT C a ga) (k : DW C (.BoolOp .And (b :: rest) pos) gb) : DW C (.BoolOp .And (a :: b :: rest) pos) (tAndM ga gb) := by
  obtain ⟨t, p, v⟩ := h
  obtain ⟨u, q, z⟩ := k
  refine ⟨_, fun X h => pw_and (p X h) (q X h), ⟨fun w0 w ρ σ Q R p => v.run w0 w ρ σ _ R (Po.bind lft_T p fun x y w1 e g1 o1 r h1 => ?_)⟩⟩
  cases r
  cases x with
  | true => exact z.run w0 w1 ρ σ _ (R.step g1 o1) h1
  | false => exact h1 false w1 (.refl o1) rfl
theorem dw_or (h : DT C a ga) (k : DW C (.BoolOp .Or (b :: rest) pos) gb) : DW C (.BoolOp .Or (a :: b :: rest) pos) (tOrM ga gb) := by
  obtain ⟨t, p, v⟩ := h
  obtain ⟨u, q, z⟩ := k
  refine ⟨_, fun X h => pw_or (p X h) (q X h), ⟨fun w0 w ρ σ Q R p => v.run w0 w ρ σ _ R (Po.bind lft_T p fun x y w1 e g1 o1 r h1 => ?_)⟩⟩
  cases r
  cases x with
  | true => exact h1 true w1 (.refl o1) rfl
  | false => exact z.run w0 w1 ρ σ _ (R.step g1 o1) h1
def tNotM (ga : Me Bool) : Me Bool := fun ρ g => (ga ρ g).bind fun x g => .ok (!x) g
theorem dt_not (h : DT C a ga) : DT C (.UnaryOp .Not a pos) (tNotM ga) := by
  obtain ⟨t, p, v⟩ := h
  refine ⟨_, fun X h => pt_not (p X h), ⟨fun w0 w ρ σ Q R p => v.run w0 w ρ σ _ R (Po.bind lft_T p fun x y w1 e g1 o1 r h1 => ?_)⟩⟩
  cases r
  exact h1 _ w1 (.refl o1) rfl
/-- not, as a value -/
def eNot (fa : Me D) : Me D := eUn (fun x g => bD ((truD x).map Bool.not) g) fa
theorem de_not (h : DB C a fa) : DE C (.UnaryOp .Not a pos) (eNot fa) := by
  obtain ⟨ta, pa, va⟩ := h
  refine ⟨tNotT C.k.K ta, fun X h => by rw [← h.K]; exact pe_notT (pa X h), ⟨fun w0 w ρ σ Q R p => va.run w0 w ρ σ _ R (Po.bind (lft_D _) p fun x v w1 e g1 o1 r h1 => ?_)⟩⟩
  have h1 : Po C.k C.W (rD C.k) w1 σ Q (bD ((truD x).map Bool.not) w1.g) := h1
  cases q : truD x with
  | none => rw [q] at h1; exact h1.elim
  | some k =>
    rw [q] at h1
    exact ⟨k, tru_of o1 r q, h1 _ w1 (.refl o1) (.bl _)⟩
theorem de_one {o : BoolOp} (h : DE C a fa) : DE C (.BoolOp o [a] pos) fa := by
  obtain ⟨t, p, v⟩ := h
  exact ⟨t, fun X q => pe_one (p X q), v⟩
def eAnd (fa fb : Me D) : Me D := fun ρ g => (fa ρ g).bind fun x g => (op (truD x) g).bind fun k g => if k = true then fb ρ g else .ok x g
def eOr (fa fb : Me D) : Me D := fun ρ g => (fa ρ g).bind fun x g => (op (truD x) g).bind fun k g => if k = true then .ok x g else fb ρ g
theorem de_and (h : DE C a fa) (k : DE C (.BoolOp .And (b :: rest) pos) fb) : DE C (.BoolOp .And (a :: b :: rest) pos) (eAnd fa fb) := by
  obtain ⟨ta, pa, va⟩ := h
  obtain ⟨tb, pb, vb⟩ := k
  refine ⟨tAndT C.k.K ta tb, fun X h => by rw [← h.K]; exact pe_andT (pa X h) (pb X h), ⟨fun w0 w ρ σ Q R p => va.run w0 w ρ σ _ R (Po.bind (lft_D _) p fun x v w1 e g1 o1 r h1 => ?_)⟩⟩
  cases q : truD x with
  | none => rw [q] at h1; exact h1.elim
  | some k =>
    rw [q] at h1
    have h1 : Po C.k C.W (rD C.k) w1 σ Q (if k = true then fb ρ w1.g else .ok x w1.g) := h1
    refine ⟨k, tru_of o1 (.inl r) q, ?_⟩
    cases k with
    | true => rw [if_pos rfl] at h1 ⊢; exact vb.run w0 w1 ρ σ _ (R.step g1 o1) h1
    | false => rw [if_neg Bool.false_ne_true] at h1 ⊢; exact h1 _ w1 (.refl o1) r
theorem de_or (h : DE C a fa) (k : DE C (.BoolOp .Or (b :: rest) pos) fb) : DE C (.BoolOp .Or (a :: b :: rest) pos) (eOr fa fb) := by
  obtain ⟨ta, pa, va⟩ := h
  obtain ⟨tb, pb, vb⟩ := k
  refine ⟨tOrT C.k.K ta tb, fun X h => by rw [← h.K]; exact pe_orT (pa X h) (pb X h), ⟨fun w0 w ρ σ Q R p => va.run w0 w ρ σ _ R (Po.bind (lft_D _) p fun x v w1 e g1 o1 r h1 => ?_)⟩⟩
  cases q : truD x with
  | none => rw [q] at h1; exact h1.elim
  | some k =>
    rw [q] at h1
    have h1 : Po C.k C.W (rD C.k) w1 σ Q (if k = true then .ok x w1.g else fb ρ w1.g) := h1
    refine ⟨k, tru_of o1 (.inl r) q, ?_⟩
    cases k with
    | false => rw [if_neg Bool.false_ne_true] at h1 ⊢; exact vb.run w0 w1 ρ σ _ (R.step g1 o1) h1
    | true => rw [if_pos rfl] at h1 ⊢; exact h1 _ w1 (.refl o1) r
def eIf {γ : Type} (gc : Me Bool) (f h : Me γ) : Me γ := fun ρ g => (gc ρ g).bind fun x g => if x = true then f ρ g else h ρ g
theorem dx_if {γ : Type} {RR : Wd → Wd → V → γ → Prop} (L : Lft RR) {f h : Me γ} (hc : DT C c ga) (ha : DX C RR a f) (hb : DX C RR b h) : DX C RR (.IfExp c a b pos) (eIf ga f h) := by
  obtain ⟨tc, pc, vc⟩ := hc
  obtain ⟨ta, pa, va⟩ := ha
  obtain ⟨tb, pb, vb⟩ := hb
  refine ⟨_, fun X h => pe_ifExp (pc X h) (pa X h) (pb X h), ⟨fun w0 w ρ σ Q R p => vc.run w0 w ρ σ _ R (Po.bind L p fun x y w1 e g1 o1 r h1 => ?_)⟩⟩
  cases r
  cases x with
  | true => exact va.run w0 w1 ρ σ _ (R.step g1 o1) h1
  | false => exact vb.run w0 w1 ρ σ _ (R.step g1 o1) h1
theorem de_if {f h : Me D} (hc : DT C c ga) (ha : DE C a f) (hb : DE C b h) : DE C (.IfExp c a b pos) (eIf ga f h) := dx_if (lft_D _) hc ha hb
theorem df_if {f h : Me (List D)} (hc : DT C c ga) (ha : DF C a f) (hb : DF C b h) : DF C (.IfExp c a b pos) (eIf ga f h) := dx_if (lft_F _) hc ha hb
end
end Dl
set_option Elab.async false
set_option linter.all false
set_option maxRecDepth 100000
set_option maxHeartbeats 1000000
namespace Dl
open PySem PySem.Spec PyProof.Rows L2
/-! ### arguments -/
inductive BvL (K : PySem.W.Frag) (w : Wd) : List V → List D → Prop
  | nil : BvL K w [] []
  | cons {v : V} {vs : List V} {d : D} {ds : List D} : Bv K w v d → BvL K w vs ds → BvL K w (v :: vs) (d :: ds)
def rLB (k : Kt) : Wd → Wd → List V → List D → Prop := fun _ w vs ds => BvL k.K w vs ds
theorem lft_LB (k : Kt) : Lft (rLB k) := fun _ _ _ _ _ _ h => h
theorem BvL.grow {K : PySem.W.Frag} {w w' : Wd} (e : Grow w w') : ∀ {vs : List V} {ds : List D}, BvL K w vs ds → BvL K w' vs ds
  | _, _, .nil => .nil
  | _, _, .cons h t => .cons (h.grow e) (BvL.grow e t)
/-- as written, no star -/
abbrev NoStar (e : Expr) (es : List Expr) : Prop := ∀ env : PySem.Env, starEach (e :: es) env = (false, eval e env) :: starEach es env
def DAB (C : Ctx) (es : List Expr) (f : Me (List D)) : Prop := ∃ t : TA, (∀ X, CtxOk C X → PA X es t) ∧ Ev C (rLB C.k) t f
section
variable {C : Ctx} {pos p apos : Pos} {a b c e o : Expr} {es rest : List Expr} {fa fb fc : Me D} {fs : Me (List D)} {x : Str}
def aNil : Me (List D) := fun _ g => .ok [] g
def aCons (fa : Me D) (fs : Me (List D)) : Me (List D) := fun ρ g => (fa ρ g).bind fun x g => (fs ρ g).bind fun l g => .ok (x :: l) g
theorem da_nil : DA C [] aNil := ⟨_, fun X h => pa_nil, ⟨fun w0 w ρ σ Q R h => h [] w (.refl R.ok) .nil⟩⟩
theorem dab_nil : DAB C [] aNil := ⟨_, fun X h => pa_nil, ⟨fun w0 w ρ σ Q R h => h [] w (.refl R.ok) .nil⟩⟩
theorem da_cons (ha : DE C e fa) (hs : DA C es fs) (n : NoStar e es := by intro _; rfl) : DA C (e :: es) (aCons fa fs) := by
  obtain ⟨ta, pa, va⟩ := ha
  obtain ⟨ts, ps, vs⟩ := hs
  exact ⟨_, fun X h => pa_cons (pa X h) (ps X h) (n _), ⟨fun w0 w ρ σ Q R h => va.run w0 w ρ σ _ R (Po.bind (lft_L _) h fun x v w1 e1 g1 o1 r1 h1 => vs.run w0 w1 ρ σ _ (R.step g1 o1) (Po.bind (lft_L _) h1 fun l us w2 e2 g2 o2 r2 h2 => h2 (v :: us) w2 (.refl o2) (.cons (r1.grow g2) r2)))⟩⟩
theorem dab_cons (ha : DB C e fa) (hs : DAB C es fs) (n : NoStar e es := by intro _; rfl) : DAB C (e :: es) (aCons fa fs) := by
  obtain ⟨ta, pa, va⟩ := ha
  obtain ⟨ts, ps, vs⟩ := hs
  exact ⟨_, fun X h => pa_cons (pa X h) (ps X h) (n _), ⟨fun w0 w ρ σ Q R h => va.run w0 w ρ σ _ R (Po.bind (lft_LB _) h fun x v w1 e1 g1 o1 r1 h1 => vs.run w0 w1 ρ σ _ (R.step g1 o1) (Po.bind (lft_LB _) h1 fun l us w2 e2 g2 o2 r2 h2 => h2 (v :: us) w2 (.refl o2) (.cons (Bv.grow r1 g2) r2)))⟩⟩
/-! ### displays -/
def eTup (fs : Me (List D)) : Me D := fun ρ g => (fs ρ g).bind fun l g => if l.length ≤ lim then .ok (.tup l) g else .bad
def eList (fs : Me (List D)) : Me (List D) := fun ρ g => (fs ρ g).bind fun l g => if l.length ≤ lim then .ok l g else .bad
theorem de_tup {k : Nat} (hs : DA C es fs) : DE C (.Tuple es k pos) (eTup fs) := by
  obtain ⟨t, q, v⟩ := hs
  refine ⟨_, fun X h => pe_tupN (q X h), ⟨fun w0 w ρ σ Q R h => v.run w0 w ρ σ _ R (Po.bind (lft_D _) h fun l us w1 e1 g1 o1 r1 h1 => ?_)⟩⟩
  split at h1
  · rename_i z
    exact ⟨by rw [RvL.length r1]; exact Nat.le_trans z lim_le, new_tup o1 r1 h1⟩
  · exact h1.elim
theorem df_lst (hs : DA C es fs) : DF C (.List es pos) (eList fs) := by
  obtain ⟨t, q, v⟩ := hs
  refine ⟨_, fun X h => pe_lst (q X h), ⟨fun w0 w ρ σ Q R h => v.run w0 w ρ σ _ R (Po.bind (lft_F _) h fun l us w1 e1 g1 o1 r1 h1 => ?_)⟩⟩
  split at h1
  · rename_i z
    exact ⟨by rw [RvL.length r1]; exact Nat.le_trans z lim_le, new_own o1 r1 h1⟩
  · exact h1.elim
/-! ### built-in functions and types called -/
def eArgs {γ : Type} (F : List D → G → Re γ) (fs : Me (List D)) : Me γ := fun ρ g => (fs ρ g).bind F
/-- what a built-in does -/
structure Bi (C : Ctx) {γ : Type} (RR : Wd → Wd → V → γ → Prop) (f : Value) (r : List V → Hp → VK → Prop) (F : List D → G → Re γ) : Prop where
  hc : ∀ X, CtxOk C X → CallR X f r
  hr : ∀ w σ xs vs Q, Wok w → BvL C.k.K w vs xs → Po C.k C.W RR w σ Q (F xs w.g) → r vs w.H Q
theorem dx_callB {γ : Type} {RR : Wd → Wd → V → γ → Prop} (L : Lft RR) {id : String} {r : List V → Hp → VK → Prop} {F : List D → G → Re γ} (k : Bi C RR (.builtin id) r F) (hv : bootBuiltins x = some (.builtin id)) (hm : C.k.mg x = none) (ha : DAB C (e :: es) fs)
    (hg : glB C.sc x = true := by rfl) (hn : x ≠ "__name__" := by decide +kernel) (hdb : (x == ("__debug__" : Str)) = false := by decide +kernel) (n : NoStar e es := by intro _; rfl) (hpl : ∀ env, (backTo pos (starEach es env)).any (·.1) = false := by intro _; rfl) : DX C RR (.Call (.Name x p) (e :: es) [] pos) (eArgs F fs) := by
  obtain ⟨t, q, v⟩ := ha
  exact ⟨_, fun X h => pe_callB (k.hc X h) (h.gl hg) (by rw [h.mg]; exact hm) hv (q X h) hn hdb (n _) (hpl _), ⟨fun w0 w ρ σ Q R h => v.run w0 w ρ σ _ R (Po.bind L h fun l us w1 e1 g1 o1 r1 h1 => k.hr w1 σ l us Q o1 r1 h1)⟩⟩
theorem dx_callT {γ : Type} {RR : Wd → Wd → V → γ → Prop} (L : Lft RR) {T : String} {r : List V → Hp → VK → Prop} {F : List D → G → Re γ} (k : Bi C RR (.type T) r F) (hv : bootBuiltins x = some (.type T)) (hm : C.k.mg x = none) (ha : DAB C (e :: es) fs)
    (hg : glB C.sc x = true := by rfl) (hn : x ≠ "__name__" := by decide +kernel) (hdb : (x == ("__debug__" : Str)) = false := by decide +kernel) (n : NoStar e es := by intro _; rfl) (hpl : ∀ env, (backTo pos (starEach es env)).any (·.1) = false := by intro _; rfl) : DX C RR (.Call (.Name x p) (e :: es) [] pos) (eArgs F fs) := by
  obtain ⟨t, q, v⟩ := ha
  exact ⟨_, fun X h => pe_callTy (k.hc X h) (h.gl hg) (by rw [h.mg]; exact hm) hv (q X h) hn hdb (n _) (hpl _), ⟨fun w0 w ρ σ Q R h => v.run w0 w ρ σ _ R (Po.bind L h fun l us w1 e1 g1 o1 r1 h1 => k.hr w1 σ l us Q o1 r1 h1)⟩⟩
theorem BvL.one {K : PySem.W.Frag} {w : Wd} {vs : List V} {d : D} (b : BvL K w vs [d]) : ∃ v, vs = [v] ∧ Bv K w v d := by
  cases b with
  | cons h t => cases t; exact ⟨_, rfl, h⟩
theorem BvL.two {K : PySem.W.Frag} {w : Wd} {vs : List V} {d e : D} (b : BvL K w vs [d, e]) : ∃ v u, vs = [v, u] ∧ Bv K w v d ∧ Bv K w u e := by
  cases b with
  | cons h t =>
    obtain ⟨u, e, k⟩ := BvL.one t
    subst e
    exact ⟨_, u, rfl, h, k⟩
/-- len -/
def lenF : List D → G → Re D
  | [.tup l], g => .ok (.int l.length) g
  | [.lst l], g => .ok (.int l.length) g
  | [.scr l], g => .ok (.int l.length) g
  | [.dic ks _], g => .ok (.int ks.length) g
  | [.str x], g => if x.length ≤ lim then .ok (.int x.length) g else .bad
  | _, _ => .bad
theorem bi_len : Bi C (rD C.k) (.builtin "len") (fun xs H Q => (∃ x n, xs = [x] ∧ LenV C.k.K x H n ∧ Q (.int n) H) ∨ ∃ a kvs, xs = [V.ref a] ∧ H a = some (.dK kvs) ∧ Q (.int kvs.length) H) lenF where
  hc := fun X h => by
    intro pins s σ H xs us Q I r q
    rcases q with q | q
    · exact (by rw [← h.K] at q; exact call_len pins s σ H xs us Q I r q)
    · exact call_lenD pins s σ H xs us Q I r q
  hr := by
    intro w σ xs vs Q o b q
    unfold lenF at q
    split at q
    · rename_i _ l
      obtain ⟨v, e, b⟩ := b.one
      obtain ⟨a, us, e2, s, r, _⟩ := b.tup o
      subst e e2
      exact (.inl ⟨_, us.length, rfl, .inr ⟨us, s.sq, rfl⟩, by rw [r.length]; exact q _ w (.refl o) (.int _)⟩)
    · rename_i _ l
      obtain ⟨v, e, b⟩ := b.one
      obtain ⟨a, us, e2, s, r⟩ := b.lst o
      subst e e2
      exact (.inl ⟨_, us.length, rfl, .inl ⟨us, .inl (.inl s), rfl⟩, by rw [r.length]; exact q _ w (.refl o) (.int _)⟩)
    · rename_i _ l
      obtain ⟨v, e, b⟩ := b.one
      obtain ⟨a, e2, s⟩ := b.scr o
      subst e e2
      exact (.inl ⟨_, l.length, rfl, .inl ⟨_, s, by rw [List.length_map]⟩, q _ w (.refl o) (.int _)⟩)
    · rename_i _ ks _
      obtain ⟨v, e, b⟩ := b.one
      obtain ⟨a, xs, e2, s, q1, r⟩ := b.dic o
      subst e e2
      exact .inr ⟨a, xs, rfl, s, by have := congrArg List.length q1; rw [List.length_map] at this; rw [← this]; exact q _ w (.refl o) (.int _)⟩
    · split at q
      · rename_i z
        obtain ⟨v, e, b⟩ := b.one
        cases b.str
        subst e
        exact (.inl ⟨_, _, rfl, ⟨Nat.le_trans z lim_le, rfl⟩, q _ w (.refl o) (.int _)⟩)
      · exact q.elim
    · exact q.elim
/-- int -/
def intF : List D → G → Re D
  | [.int i], g => .ok (.int i) g
  | [.bl k], g => .ok (.int (if k then 1 else 0)) g
  | _, _ => .bad
theorem bi_int : Bi C (rD C.k) (.type "int") (fun xs H Q => (∃ i, xs = [.int i] ∧ Q (.int i) H) ∨ ∃ k, xs = [.bl k] ∧ Q (.int (if k then 1 else 0)) H) intF where
  hc := fun X h => call_int1
  hr := by
    intro w σ xs vs Q o b q
    unfold intF at q
    split at q
    · obtain ⟨v, e, b⟩ := b.one
      cases b.int
      exact .inl ⟨_, e, q _ w (.refl o) (.int _)⟩
    · obtain ⟨v, e, b⟩ := b.one
      cases b.bl
      exact .inr ⟨_, e, q _ w (.refl o) (.int _)⟩
    · exact q.elim
/-- tuple(..) -/
def tupF : List D → G → Re D
  | [.tup l], g => .ok (.tup l) g
  | [.lst l], g => .ok (.tup l) g
  | _, _ => .bad
theorem bi_tuple : Bi C (rD C.k) (.type "tuple") (fun xs H Q => ∃ p ys, xs = [.ref p] ∧ ((SqL C.k.K H p ys ∧ NewT ys H Q) ∨ (SqT C.k.K H p ys ∧ Q (.ref p) H))) tupF where
  hc := fun X h => by rw [← h.K]; exact call_tupN
  hr := by
    intro w σ xs vs Q o b q
    unfold tupF at q
    split at q
    · obtain ⟨v, e, b⟩ := b.one
      obtain ⟨a, us, e2, s, r, rv⟩ := b.tup o
      subst e e2
      exact ⟨a, us, rfl, .inr ⟨s.sq, q _ w (.refl o) rv⟩⟩
    · obtain ⟨v, e, b⟩ := b.one
      obtain ⟨a, us, e2, s, r⟩ := b.lst o
      subst e e2
      exact ⟨a, us, rfl, .inl ⟨.inl (.inl s), new_tup o r q⟩⟩
    · exact q.elim
/-- list(..) of a list or a tuple -/
def lstF : List D → G → Re (List D)
  | [.tup l], g => .ok l g
  | [.lst l], g => .ok l g
  | [.scr l], g => .ok (l.map D.int) g
  | _, _ => .bad
theorem bi_list : Bi C (rF C.k) (.type "list") (fun xs H Q => ∃ p ys, xs = [.ref p] ∧ (SqL C.k.K H p ys ∨ SqT C.k.K H p ys) ∧ ∀ l, H l = none → Q (.ref l) (upd H l (.lst ys))) lstF where
  hc := fun X h => by rw [← h.K]; exact call_list_of
  hr := by
    intro w σ xs vs Q o b q
    unfold lstF at q
    split at q
    · obtain ⟨v, e, b⟩ := b.one
      obtain ⟨a, us, e2, s, r, _⟩ := b.tup o
      subst e e2
      exact ⟨a, us, rfl, .inr s.sq, new_own o r q⟩
    · obtain ⟨v, e, b⟩ := b.one
      obtain ⟨a, us, e2, s, r⟩ := b.lst o
      subst e e2
      exact ⟨a, us, rfl, .inl (.inl (.inl s)), new_own o r q⟩
    · obtain ⟨v, e, b⟩ := b.one
      obtain ⟨a, e2, s⟩ := b.scr o
      subst e e2
      exact ⟨a, _, rfl, .inl s, new_own o (RvL.ints _) q⟩
    · exact q.elim
/-- the ints of a list -/
def intsD : List D → Option (List Int)
  | [] => some []
  | .int i :: r => (intsD r).map (i :: ·)
  | _ => none
theorem ints_map : ∀ {l : List D} {ns : List Int}, intsD l = some ns → l = ns.map D.int
  | [], ns, h => by cases h; rfl
  | .int i :: r, ns, h => by
    rw [intsD] at h
    cases q : intsD r with
    | none => rw [q] at h; cases h
    | some m =>
      rw [q] at h
      cases h
      rw [ints_map q]; rfl
theorem ints_of : ∀ ns : List Int, intsD (ns.map D.int) = some ns
  | [] => rfl
  | n :: r => by rw [List.map_cons, intsD, ints_of r]; rfl
def sumF : List D → G → Re D
  | [.lst l], g => op ((intsD l).map fun ns => D.int ns.sum) g
  | _, _ => .bad
theorem bi_sum : Bi C (rD C.k) (.builtin "sum") (rSum C.k.K) sumF where
  hc := fun X h => by rw [← h.K]; exact cr_sum h.calm
  hr := by
    intro w σ xs vs Q o b q
    unfold sumF at q
    split at q
    · rename_i _ l
      obtain ⟨v, e, b⟩ := b.one
      obtain ⟨a, us, e2, s, r⟩ := b.lst o
      subst e e2
      cases z : intsD l with
      | none => rw [z] at q; exact q.elim
      | some ns =>
        rw [z] at q
        rw [ints_map z] at r
        cases RvL.ints_inv r
        exact ⟨a, ns, rfl, .inl (.inl s), q _ w (.refl o) (.int _)⟩
    · exact q.elim
/-- max, min of two ints -/
def max2F : List D → G → Re D
  | [.int i, .int j], g => .ok (.int (if j > i then j else i)) g
  | _, _ => .bad
def min2F : List D → G → Re D
  | [.int i, .int j], g => .ok (.int (if j < i then j else i)) g
  | _, _ => .bad
theorem bi_max2 : Bi C (rD C.k) (.builtin "max") (fun xs H Q => ∃ i j, xs = [.int i, .int j] ∧ Q (.int (if j > i then j else i)) H) max2F where
  hc := fun X h => call_max2 h.calm
  hr := by
    intro w σ xs vs Q o b q
    unfold max2F at q
    split at q
    · obtain ⟨v, u, e, b1, b2⟩ := b.two
      cases b1.int
      cases b2.int
      exact ⟨_, _, e, q _ w (.refl o) (.int _)⟩
    · exact q.elim
theorem bi_min2 : Bi C (rD C.k) (.builtin "min") (fun xs H Q => ∃ i j, xs = [.int i, .int j] ∧ Q (.int (if j < i then j else i)) H) min2F where
  hc := fun X h => call_min2 h.calm
  hr := by
    intro w σ xs vs Q o b q
    unfold min2F at q
    split at q
    · obtain ⟨v, u, e, b1, b2⟩ := b.two
      cases b1.int
      cases b2.int
      exact ⟨_, _, e, q _ w (.refl o) (.int _)⟩
    · exact q.elim
/-- all, any of a list of bools -/
def bools : List D → Option (List Bool)
  | [] => some []
  | .bl i :: r => (bools r).map (i :: ·)
  | _ => none
theorem bools_vs {K : PySem.W.Frag} {w : Wd} : ∀ {l : List D} {bs : List Bool} {vs : List V}, bools l = some bs → RvL K w vs l → vs = bs.map V.bl
  | [], bs, vs, h, r => by cases h; cases r; rfl
  | .bl i :: t, bs, vs, h, r => by
    rw [bools] at h
    cases q : bools t with
    | none => rw [q] at h; cases h
    | some m =>
      rw [q] at h
      cases h
      cases r with
      | cons r1 r2 => cases r1; rw [bools_vs q r2]; rfl
theorem bools_of : ∀ bs : List Bool, bools (bs.map D.bl) = some bs
  | [] => rfl
  | n :: r => by rw [List.map_cons, bools, bools_of r]; rfl
def allF : List D → G → Re D
  | [.lst l], g => op ((bools l).map fun bs => D.bl (bs.all id)) g
  | _, _ => .bad
def anyF : List D → G → Re D
  | [.lst l], g => op ((bools l).map fun bs => D.bl (bs.any id)) g
  | _, _ => .bad
theorem bi_all : Bi C (rD C.k) (.builtin "all") (rAll C.k.K) allF where
  hc := fun X h => by rw [← h.K]; exact cr_all h.calm
  hr := by
    intro w σ xs vs Q o b q
    unfold allF at q
    split at q
    · rename_i _ l
      obtain ⟨v, e, b⟩ := b.one
      obtain ⟨a, us, e2, s, r⟩ := b.lst o
      subst e e2
      cases z : bools l with
      | none => rw [z] at q; exact q.elim
      | some bs =>
        rw [z] at q
        cases bools_vs z r
        exact ⟨a, bs, rfl, .inl (.inl s), q _ w (.refl o) (.bl _)⟩
    · exact q.elim
theorem bi_any : Bi C (rD C.k) (.builtin "any") (rAny C.k.K) anyF where
  hc := fun X h => by rw [← h.K]; exact cr_any h.calm
  hr := by
    intro w σ xs vs Q o b q
    unfold anyF at q
    split at q
    · rename_i _ l
      obtain ⟨v, e, b⟩ := b.one
      obtain ⟨a, us, e2, s, r⟩ := b.lst o
      subst e e2
      cases z : bools l with
      | none => rw [z] at q; exact q.elim
      | some bs =>
        rw [z] at q
        cases bools_vs z r
        exact ⟨a, bs, rfl, .inl (.inl s), q _ w (.refl o) (.bl _)⟩
    · exact q.elim
end
end Dl
set_option Elab.async false
set_option linter.all false
set_option maxRecDepth 100000
set_option maxHeartbeats 1000000
namespace Dl
open PySem PySem.Spec PyProof.Rows L2
section
variable {C : Ctx} {pos p apos : Pos} {a b c e o : Expr} {es rest : List Expr} {fa fb fc : Me D} {fs : Me (List D)} {x : Str}
/-! ### items -/
theorem RvL.at {K : PySem.W.Frag} {w : Wd} {vs : List V} {ds : List D} {i : Int} {d : D} (r : RvL K w vs ds) (h : atI ds i = some d) : ∃ v, atI vs i = some v ∧ Rv K w v d := by
  unfold atI at h ⊢
  rw [r.length]
  cases q : ixN ds.length i with
  | none => rw [q] at h; cases h
  | some j =>
    rw [q] at h
    exact r.get h
theorem ix_dic {X : Cx} (hu : X.A.units + 1 < cLine) : IxR X (fun x y H Q => ∃ a v, x = .ref a ∧ DGet H a y (some v) ∧ Q v H) := by
  intro value slice pins s σ H x y v u Q I rx ry h hs
  obtain ⟨a, w, e, g, q⟩ := h
  subst e
  cases rx
  exact tail_any (dict_typeIs I g) PySem.F.slot_dict_getitem.lookup (d_getItem hu I g ry fun w' s' I' rw' => ⟨w, H, I', rw', q⟩) hs
def ixF : D → D → G → Re D
  | .tup l, .int i, g => op (atI l i) g
  | .lst l, .int i, g => op (atI l i) g
  | .dic ks vs, k, g => if (kyD k).isSome = true then op (dGet ks vs k) g else .bad
  | _, _, _ => .bad
theorem de_ix (ha : DB C a fa) (hb : DB C b fb) (hs : PlainIx b := by intro _ _; rfl) : DE C (.Subscript a b pos) (eOp ixF fa fb) := by
  obtain ⟨ta, pa, va⟩ := ha
  obtain ⟨tb, pb, vb⟩ := hb
  refine ⟨tOp (fun x y H Q => rIx C.k.K x y H Q ∨ ∃ a v, x = .ref a ∧ DGet H a y (some v) ∧ Q v H) ta tb, fun X h => pe_ix (IxR.or (by rw [← h.K]; exact ix_seq) (ix_dic h.u1)) (pa X h) (pb X h) hs, ev_op (lft_D _) (fun w σ x y v u Q o bx by_ q => ?_) va vb⟩
  unfold ixF at q
  split at q
  · rename_i _ l i
    cases z : atI l i with
    | none => rw [z] at q; exact q.elim
    | some d =>
      rw [z] at q
      obtain ⟨a1, xs, e1, s, r, _⟩ := bx.tup o
      obtain ⟨y, hy, ry⟩ := r.at z
      exact .inl (.inr (.inl ⟨a1, xs, i, y, e1, by_.int, s.sq, hy, q y w (.refl o) ry⟩))
  · rename_i _ l i
    cases z : atI l i with
    | none => rw [z] at q; exact q.elim
    | some d =>
      rw [z] at q
      obtain ⟨a1, xs, e1, s, r⟩ := bx.lst o
      obtain ⟨y, hy, ry⟩ := r.at z
      exact .inl (.inl ⟨a1, xs, i, y, e1, by_.int, .inl (.inl s), hy, q y w (.refl o) ry⟩)
  · rename_i k _ _ _ ks vs
    split at q
    · rename_i z
      obtain ⟨k', hk⟩ := Option.isSome_iff_exists.mp z
      have ek := kyD_kD hk
      subst ek
      obtain ⟨a, xs, e, s, q1, r⟩ := bx.dic o
      cases z2 : dGet ks vs (kD k') with
      | none => rw [z2] at q; exact q.elim
      | some d =>
        rw [z2] at q
        rw [q1] at z2
        obtain ⟨v, hv, rv⟩ := dGet_of r z2
        exact .inr ⟨a, v, e, by rw [by_.key]; exact .inl ⟨xs, k', .inl s, rfl, hv.symm⟩, q v w (.refl o) rv⟩
    · exact q.elim
  · exact q.elim
/-! ### slices -/
def rO : Wd → Wd → Option Int → Option Int → Prop := fun _ _ a b => a = b
def DO (C : Ctx) (e : Option Expr) (f : Me (Option Int)) : Prop := ∃ t : TO, (∀ X, CtxOk C X → PO X e t) ∧ Ev C rO t f
def oNone : Me (Option Int) := fun _ g => .ok none g
def oSome (fa : Me D) : Me (Option Int) := fun ρ g => (fa ρ g).bind fun x g => match x with
  | .int i => .ok (some i) g
  | _ => .bad
theorem do_none : DO C none oNone := ⟨_, fun X h => po_none, ⟨fun w0 w ρ σ Q R h => h none w (.refl R.ok) rfl⟩⟩
theorem do_some (h : DB C a fa) : DO C (some a) (oSome fa) := by
  obtain ⟨t, q, v⟩ := h
  refine ⟨_, fun X h => po_some (q X h), ⟨fun w0 w ρ σ Q R h => v.run w0 w ρ σ _ R (Po.bind (fun _ _ _ _ _ _ h => h) h fun x y w1 e1 g1 o1 r1 h1 => ?_)⟩⟩
  cases x with
  | int i => exact ⟨i, Bv.int r1, h1 (some i) w1 (.refl o1) rfl⟩
  | _ => exact h1.elim
def cutA {α : Type} (xs : List α) (lo hi : Option Int) : List α := (xs.drop (HT.sIx xs.length 0 lo)).take (HT.sIx xs.length xs.length hi - HT.sIx xs.length 0 lo)
theorem RvL.cut {K : PySem.W.Frag} {w : Wd} {vs : List V} {ds : List D} (r : RvL K w vs ds) (lo hi : Option Int) : RvL K w (cutV vs lo hi) (cutA ds lo hi) := by
  unfold cutV cutA
  rw [r.length]
  exact (r.drop _).take _
theorem cutA_whole {α : Type} {xs : List α} {lo hi : Option Int} (h : HT.sIx xs.length 0 lo = 0 ∧ HT.sIx xs.length xs.length hi = xs.length) : cutA xs lo hi = xs := by
  unfold cutA
  rw [h.1, h.2, List.drop_zero, Nat.sub_zero, List.take_length]
def eSl {γ : Type} (F : D → Option Int → Option Int → G → Re γ) (fa : Me D) (fl fh : Me (Option Int)) : Me γ := fun ρ g => (fa ρ g).bind fun x g => (fl ρ g).bind fun lo g => (fh ρ g).bind fun hi g => F x lo hi g
theorem ev_sl {γ : Type} {RR : Wd → Wd → V → γ → Prop} (L : Lft RR) {r : V → Option Int → Option Int → Hp → VK → Prop} {F : D → Option Int → Option Int → G → Re γ} {ta : TE} {tl th : TO} {fl fh : Me (Option Int)}
    (hr : ∀ w σ x v lo hi Q, Wok w → Bv C.k.K w v x → Po C.k C.W RR w σ Q (F x lo hi w.g) → r v lo hi w.H Q) (ha : Ev C (rB C.k) ta fa) (hl : Ev C rO tl fl) (hh : Ev C rO th fh) : Ev C RR (tSl r ta tl th) (eSl F fa fl fh) :=
  ⟨fun w0 w ρ σ Q R h => ha.run w0 w ρ σ _ R (Po.bind L h fun x v w1 e g1 o1 ra h1 => hl.run w0 w1 ρ σ _ (R.step g1 o1) (Po.bind L h1 fun y u w2 e2 g2 o2 rb h2 =>
    hh.run w0 w2 ρ σ _ ((R.step g1 o1).step g2 o2) (Po.bind L h2 fun z t w3 e3 g3 o3 rc h3 => by
      cases rb
      cases rc
      exact hr w3 σ x v _ _ Q o3 (Bv.grow (Bv.grow ra g2) g3) h3)))⟩
def slF : D → Option Int → Option Int → G → Re D
  | .tup l, lo, hi, g => .ok (.tup (cutA l lo hi)) g
  | .lst l, lo, hi, g => .ok (.lst (cutA l lo hi)) g
  | _, _, _, _ => .bad
theorem de_slice {lo hi : Option Expr} {p2 : Pos} {fl fh : Me (Option Int)} (ha : DB C a fa) (hl : DO C lo fl) (hh : DO C hi fh) : DE C (.Subscript a (.Slice lo hi none p2) pos) (eSl slF fa fl fh) := by
  obtain ⟨ta, pa, va⟩ := ha
  obtain ⟨tl, pl, vl⟩ := hl
  obtain ⟨th, ph, vh⟩ := hh
  refine ⟨tSl (fun x lo hi H Q => rSlN C.k.K x lo hi H Q ∨ rSlL C.k.K x lo hi H Q) ta tl th, fun X h => pe_slice (SlR.or (by rw [← h.K]; exact sl_tupN) (by rw [← h.K]; exact sl_list)) (pa X h) (pl X h) (ph X h), ev_sl (lft_D _) (fun w σ x v lo hi Q o bx q => ?_) va vl vh⟩
  unfold slF at q
  split at q
  · rename_i _ l
    obtain ⟨a1, xs, e1, s, r, rv⟩ := bx.tup o
    refine .inl ⟨a1, xs, e1, s.sq, fun hw => ?_, fun _ => new_tup o (r.cut _ _) q⟩
    rw [cutA_whole (by rw [← r.length]; exact hw)] at q
    exact q _ w (.refl o) (by rw [← e1]; exact rv)
  · rename_i _ l
    obtain ⟨a1, xs, e1, s, r⟩ := bx.lst o
    exact .inr ⟨a1, xs, e1, .inl (.inl s), new_lst o (r.cut _ _) q⟩
  · exact q.elim
def slL : D → Option Int → Option Int → G → Re (List D)
  | .lst l, lo, hi, g => .ok (cutA l lo hi) g
  | _, _, _, _ => .bad
theorem df_slice {lo hi : Option Expr} {p2 : Pos} {fl fh : Me (Option Int)} (ha : DB C a fa) (hl : DO C lo fl) (hh : DO C hi fh) : DF C (.Subscript a (.Slice lo hi none p2) pos) (eSl slL fa fl fh) := by
  obtain ⟨ta, pa, va⟩ := ha
  obtain ⟨tl, pl, vl⟩ := hl
  obtain ⟨th, ph, vh⟩ := hh
  refine ⟨tSl (rSlL C.k.K) ta tl th, fun X h => pe_slice (by rw [← h.K]; exact sl_list) (pa X h) (pl X h) (ph X h), ev_sl (lft_F _) (fun w σ x v lo hi Q o bx q => ?_) va vl vh⟩
  unfold slL at q
  split at q
  · rename_i _ l
    obtain ⟨a1, xs, e1, s, r⟩ := bx.lst o
    exact ⟨a1, xs, e1, .inl (.inl s), new_own o (r.cut _ _) q⟩
  · exact q.elim
end
/-! ### t[::-1] of a tuple -/
section
variable {prog : Program} {w : World} {A : Around} {E : Value → Shared → Prop} {s : Shared}
theorem sliceApplied_back {sl : Addr} {n : Nat} {t : Tok} {Q : Int × Int × Nat → Shared → Prop} (hs : s.heap.IsSliceOf sl .none .none (.int (-1) t)) (h : Q ((n : Int) - 1, -1, n) s) : wpAny (model prog w) A (Builtin.Slice.sliceApplied (.ref sl) (pure (n : Int))) Q E s := by
  obtain ⟨os, hos, hcs, hds⟩ := id hs
  unfold Builtin.Slice.sliceApplied Builtin.Slice.sliceFields
  refine wpAny_bind (wpAny_bind (wpAny_field hos hds (x := .none) rfl (wpAny_bind (wpAny_field hos hds (x := .none) rfl (wpAny_bind (wpAny_field hos hds (x := .int (-1) t) rfl (wpAny_pure ?_)))))))
  refine wpAny_bind (slicePart_int ?_)
  show wpAny _ _ (if ((-1 : Int) == 0) = true then _ else _) _ _ s
  rw [if_neg (by decide)]
  refine wpAny_bind (slicePart_none (wpAny_bind (slicePart_none (wpAny_bind (wpAny_pure ?_)))))
  show wpAny _ _ (match Builtin.Slice.sliceAdjust none none (-1) (n : Int) with | (lo, hi) => pure (lo, (-1 : Int), Builtin.Slice.slicePlaces lo hi (-1))) _ _ s
  have e : Builtin.Slice.sliceAdjust none none (-1) (n : Int) = ((n : Int) - 1, -1) := by
    unfold Builtin.Slice.sliceAdjust
    simp
  rw [e]
  show wpAny _ _ (pure ((n : Int) - 1, (-1 : Int), Builtin.Slice.slicePlaces ((n : Int) - 1) (-1) (-1))) _ _ s
  have e2 : Builtin.Slice.slicePlaces ((n : Int) - 1) (-1) (-1) = n := by
    unfold Builtin.Slice.slicePlaces
    simp
    omega
  rw [e2]
  exact wpAny_pure h
theorem fm_map {α β : Type} (g : α → Option β) (f : α → β) : ∀ l : List α, (∀ m ∈ l, g m = some (f m)) → l.filterMap g = l.map f
  | [], _ => rfl
  | a :: r, h => by
    rw [List.filterMap_cons, h a List.mem_cons_self, List.map_cons, fm_map g f r fun m hm => h m (List.mem_cons_of_mem _ hm)]
theorem pick_back (xs : Array Value) : ((List.range xs.size).filterMap fun (m : Nat) => xs[((xs.size : Int) - 1 + (m : Int) * (-1)).toNat]?).toArray = xs.toList.reverse.toArray := by
  congr 1
  apply List.ext_getElem?
  intro i
  have e : (List.range xs.size).filterMap (fun (m : Nat) => xs[((xs.size : Int) - 1 + (m : Int) * (-1)).toNat]?) = (List.range xs.size).map (fun m => xs.toList.getD (xs.size - 1 - m) .none) := by
    refine fm_map _ _ _ fun m hm => ?_
    have hm := List.mem_range.mp hm
    have e1 : ((xs.size : Int) - 1 + (m : Int) * (-1)).toNat = xs.size - 1 - m := by omega
    rw [e1]
    have h2 : xs.size - 1 - m < xs.size := by omega
    simp [List.getD, h2]
  rw [e]
  by_cases hi : i < xs.size
  · rw [List.getElem?_map, List.getElem?_range hi]
    rw [List.getElem?_reverse (by simpa using hi)]
    simp only [Option.map_some, Array.length_toList, List.getD]
    have h2 : xs.size - 1 - i < xs.size := by omega
    simp [h2]
  · rw [List.getElem?_eq_none (by simpa using hi), List.getElem?_eq_none (by simpa using hi)]
theorem getItem_tuple_back {t sl : Addr} {items : Array Value} {tk : Tok} {Q : Value → Shared → Prop} (ht : IsTup s.heap t items) (hs : s.heap.IsSliceOf sl .none .none (.int (-1) tk))
    (h : Q (.ref s.heap.objs.size) { s with heap := s.heap.push { cls := .type "tuple", data := .seq items.toList.reverse.toArray } }) (hsz : items.size ≤ sizeLine) : wpAny (model prog w) A (getItem (.ref t) (.ref sl)) Q E s := by
  obtain ⟨os, hos, hcs, hds⟩ := id hs
  have hTs : s.TypeIs (.ref sl) "slice" := ⟨os, hos, hcs⟩
  have htake : sizeOk (.seq items.toList.reverse.toArray) := by
    show items.toList.reverse.toArray.size ≤ sizeLine
    rw [List.size_toArray, List.length_reverse, Array.length_toList]
    exact hsz
  unfold getItem
  try with_reducible refine wpAny_holding ?_
  first | refine wpAny_bind (wpAny_pure ?_) | skip
  refine wpAny_bind (wpAny_sequenceKey ht.typeIs (by decide) (wpAny_bind (wpAny_callSpecial?_slot (name := Str.ofString "__getitem__") ht.typeIs PyProof.Rows.slot_tuple_getitem
    (wpAny_call_entry PyProof.Rows.slot_tuple_getitem ht.typeIs PyProof.Rows.entry_tuple_getitem ?_ (PyProof.Rows.args_tuple_getitem _ _)))))
  show wpAny _ _ (Builtin.Tuple.tupleItemsOf (.ref t) >>= _) _ _ s
  refine wpAny_bind (PyProof.Rows.tupleItemsOf_ ht (wpAny_bind (wpAny_typeOf hTs ?_)))
  rw [if_pos (by decide)]
  refine wpAny_bind (sliceApplied_back hs ?_)
  show wpAny _ _ (if (((items.size : Int) - 1) == 0 && (-1 : Int) == 1 && items.size == items.size) = true then _ else _) _ _ s
  rw [if_neg (by simp), pick_back]
  first
    | exact wpAny_bind (m := Builtin.Tuple.tupleExact _) (wpAny_newObj_type (wpAny_pure ⟨_, rfl, wpAny_pure h⟩) htake)
    | exact wpAny_bind (m := Builtin.Tuple.tupleExact _) (wpAny_newObj_type (wpAny_bind (wpAny_pure (wpAny_pure ⟨_, rfl, wpAny_pure h⟩))) htake)
    | exact wpAny_bind (wpAny_bind (m := Builtin.Tuple.tupleExact _) (wpAny_newObj_type (wpAny_pure (wpAny_pure ⟨_, rfl, wpAny_pure h⟩)) htake))
    | exact wpAny_bind (wpAny_bind (m := Builtin.Tuple.tupleExact _) (wpAny_newObj_type (wpAny_pure ⟨_, rfl, wpAny_pure h⟩) htake))
end
end Dl
set_option Elab.async false
set_option linter.all false
set_option maxRecDepth 100000
set_option maxHeartbeats 1000000
namespace Dl
open PySem PySem.Spec PyProof.Rows L2
/-- t[::-1] -/
theorem pe_revT {X : Cx} {e : Expr} {te : TE} {k : Nat} {p1 p2 p3 pos : Pos} (he : PE X e te) :
    PE X (.Subscript e (.Slice none none (some (.UnaryOp .USub (.Constant (.int 1) k p1) p2)) p3) pos) (fun σ H Q => te σ H fun x H1 => ∃ a xs, x = .ref a ∧ SqT X.K H1 a xs ∧ NewT xs.reverse H1 Q) := by
  refine ⟨fun pins s σ H Q I h => ?_⟩
  refine Subscript_ (thn (he.run pins s σ H _ I h) fun v s1 ⟨x, H1, I1, r1, a, xs, ex, hx, q⟩ => ?_)
  subst ex
  cases r1
  have hst : PO X (some (.UnaryOp .USub (.Constant (.int 1) k p1) p2)) (tPart (tUn (rU fun i => .int (-i)) (tC (.int 1)))) := po_some (pe_un un_neg pe_int)
  refine wpAny_Slice (thn (po_none.run pins s1 σ H1 (fun o H2 => o = none ∧ H2 = H1) I1 ⟨rfl, rfl⟩) fun vl s2 ⟨l, H2, I2, pl, el, e2⟩ => ?_)
  subst el e2
  refine thn (po_none.run pins s2 σ H2 (fun o H3 => o = none ∧ H3 = H2) I2 ⟨rfl, rfl⟩) fun vu s3 ⟨u, H3, I3, pu, eu, e3⟩ => ?_
  subst eu e3
  refine thn (hst.run pins s3 σ H3 (fun o H4 => o = some (-1) ∧ H4 = H3) I3 ⟨1, rfl, -1, rfl, rfl, rfl⟩) fun vs s4 ⟨o, H4, I4, ps, eo, e4⟩ => ?_
  subst eo e4
  cases pl
  cases pu
  cases ps with
  | int i t =>
    have I5 : Inv X pins σ H4 { s4 with heap := s4.heap.push { cls := .type "slice", data := .fields #[.none, .none, .int (-1) t] } } := I4.kept (t' := s4.toks) fun b ob q => Heap.get?_push_of_some _ q
    obtain ⟨its, r, ht, hz⟩ := I5.tuple hx
    have hlen := r.length
    refine tail_any (ops := [.ref a, .ref s4.heap.objs.size]) ht.typeIs (PyProof.Rows.slot_tuple_getitem.lookup) ?_ (by with_unfolding_all rfl)
    refine getItem_tuple_back ht (Heap.IsSliceOf.new _ .none .none (.int (-1) t)) ?_ (by rw [List.size_toArray]; omega)
    exact layT I5 r.reverse (by rw [List.length_reverse]; exact hz) q
section
variable {C : Ctx} {pos p apos : Pos} {a b c e o : Expr} {es rest : List Expr} {fa fb fc : Me D} {fs : Me (List D)} {x : Str}
def revL : D → G → Re (List D)
  | .lst l, g => .ok l.reverse g
  | _, _ => .bad
theorem df_revL {k : Nat} {p1 p2 p3 : Pos} (ha : DB C a fa) : DF C (.Subscript a (.Slice none none (some (.UnaryOp .USub (.Constant (.int 1) k p1) p2)) p3) pos) (eUn revL fa) := by
  obtain ⟨ta, pa, va⟩ := ha
  refine ⟨tRevL C.k.K ta, fun X h => by rw [← h.K]; exact pe_revL (pa X h), ⟨fun w0 w ρ σ Q R h => va.run w0 w ρ σ _ R (Po.bind (lft_F _) h fun x v w1 e1 g1 o1 r1 h1 => ?_)⟩⟩
  have h1 : Po C.k C.W (rF C.k) w1 σ Q (revL x w1.g) := h1
  unfold revL at h1
  split at h1
  · obtain ⟨a1, xs, e1, s, r⟩ := Bv.lst o1 r1
    exact ⟨a1, xs, e1, .inl (.inl s), new_own o1 r.reverse h1⟩
  · exact h1.elim
def revF : D → G → Re D
  | .tup l, g => .ok (.tup l.reverse) g
  | .lst l, g => .ok (.lst l.reverse) g
  | _, _ => .bad
theorem de_revT {k : Nat} {p1 p2 p3 : Pos} (ha : DB C a fa) : DE C (.Subscript a (.Slice none none (some (.UnaryOp .USub (.Constant (.int 1) k p1) p2)) p3) pos) (eUn revF fa) := by
  obtain ⟨t2, p2', v2⟩ := (df_revL (pos := pos) (k := k) (p1 := p1) (p2 := p2) (p3 := p3) ha).e
  obtain ⟨ta, pa, va⟩ := ha
  refine ⟨fun σ H Q => (ta σ H fun x H1 => ∃ a xs, x = .ref a ∧ SqT C.k.K H1 a xs ∧ NewT xs.reverse H1 Q) ∨ t2 σ H Q, fun X h => ⟨fun pins s σ H Q I q => ?_⟩, ⟨fun w0 w ρ σ Q R h => ?_⟩⟩
  · rcases q with q | q
    · exact (by rw [← h.K] at q; exact (pe_revT (pa X h)).run pins s σ H Q I q)
    · exact (p2' X h).run pins s σ H Q I q
  · by_cases z : ∃ l g', fa ρ w.g = .ok (.lst l) g'
    · obtain ⟨l, g', z⟩ := z
      refine .inr (v2.run w0 w ρ σ Q R ?_)
      have h : Po C.k C.W (rD C.k) w σ Q ((fa ρ w.g).bind fun x g => revF x g) := h
      show Po C.k C.W (rD C.k) w σ Q (mapRe D.lst ((fa ρ w.g).bind fun x g => revL x g))
      rw [z] at h ⊢
      exact h
    · refine .inl (va.run w0 w ρ σ _ R (Po.bind (lft_D _) h fun x v w1 e1 g1 o1 r1 h1 => ?_))
      have h1 : Po C.k C.W (rD C.k) w1 σ Q (revF x w1.g) := h1
      unfold revF at h1
      split at h1
      · obtain ⟨a1, xs, e1, s, r, _⟩ := Bv.tup o1 r1
        exact ⟨a1, xs, e1, s.sq, new_tup o1 r.reverse h1⟩
      · exact absurd ⟨_, _, e1⟩ z
      · exact h1.elim
end
/-! ### methods that only look -/
def tyW (K : PySem.W.Frag) (T : String) (x : V) (H : Hp) : Prop := tyV K T x H ∨ (T = "tuple" ∧ ∃ a xs, x = .ref a ∧ TupR K H a xs)
theorem tyW_is {X : Cx} {pins : List (Addr × Obj)} {σ : L2.St} {H : Hp} {s : Shared} {T : String} {x : V} {v : Value} (I : Inv X pins σ H s) (r : RelV x v) (ty : tyW X.K T x H) :
    s.TypeIs v T ∧ ∀ a, v = .ref a → ∃ ob, s.heap.get? a = some ob ∧ ob.dict = none := by
  rcases ty with ty | ⟨e, a, xs, ex, h⟩
  · exact tyV_is I r ty
  · subst e ex
    cases r
    rcases h with ⟨o, h, d⟩ | ⟨o, its, n, h1, h2, h3, _⟩
    · obtain ⟨e1, _, _, _, o', e2, e3, _⟩ := (show ObjOk X.prog X.w H s.heap a (.frz o (.tup xs)) from I.hok a _ h)
      rw [e1] at e2
      cases e2
      refine ⟨⟨o, e1, e3⟩, fun b e => ?_⟩
      cases e
      exact ⟨o, e1, d⟩
    · refine ⟨⟨o, I.kIn a o h1, h2⟩, fun b e => ?_⟩
      cases e
      exact ⟨o, I.kIn _ o h1, h3⟩
def tBW (K : PySem.W.Frag) (T : String) (r : V → List V → Hp → VK → Prop) (to : TE) (t : TA) : TE := fun σ H Q => to σ H fun x H1 => tyW K T x H1 ∧ t σ H1 fun xs H2 => r x xs H2 Q
/-- o.m(e, ..), m a method of a built-in type -/
theorem pe_bw {X : Cx} {o e : Expr} {es : List Expr} {to : TE} {t : TA} {name : Str} {apos cpos : Pos} {T id : String} {r : V → List V → Hp → VK → Prop}
    (pa : PlainAttrs T) (slot : Slot T name id) (hty : typeOf (.builtin id) = pure (.type "method_descriptor")) (hm : MtR X id r) (ho : PE X o to) (ha : PA X (e :: es) t)
    (hbase : attributeBase o name X.env (eval o X.env) = eval o X.env)
    (hfew : ((backTo cpos (starEach (e :: es) X.env)).all (fun x => !x.1) && (backToKw cpos (keywordEach [] X.env)).all (fun x => x.1.isSome)
      && decide ((e :: es).length + ([] : List Keyword).length + (if ([] : List Keyword).isEmpty then 0 else 1) < 30)) = true)
    (hline : (apos.endLine == cpos.line) = true) (hs : starEach (e :: es) X.env = (false, eval e X.env) :: starEach es X.env) (hplain : (backTo cpos (starEach es X.env)).any (·.1) = false) :
    PE X (.Call (.Attribute o name apos) (e :: es) [] cpos) (tBW X.K T r to t) := by
  refine ⟨fun pins s σ H Q I h => ?_⟩
  refine wpAny_Call_method_late hbase hfew hline rfl (thn (ho.run pins s σ H _ I h) fun v s1 ⟨x, H1, I1, r1, ty, q1⟩ => ?_)
  obtain ⟨h1, h2⟩ := tyW_is I1 r1 ty
  refine ⟨T, id, pa, slot, hty, h1, h2, ?_⟩
  have hA := ha.run cpos pins s1 σ H1 _ I1 q1
  rw [hs] at hA ⊢
  refine Calls.callWith_builtin (by show (false || (backTo cpos (starEach es X.env)).any (·.1)) = false; rw [hplain]; rfl) (Calls.evalArgs_plain (thn hA fun us s2 ⟨vs, H2, I2, r2, q2⟩ => ?_))
  exact hm pins s2 σ H2 x vs v us Q I2 r1 r2 q2
section
variable {C : Ctx} {pos p apos : Pos} {a b c e o : Expr} {es rest : List Expr} {fa fb fc : Me D} {fs : Me (List D)} {x : Str}
def eMeth {γ : Type} (T : D → Bool) (F : D → List D → G → Re γ) (fa : Me D) (fs : Me (List D)) : Me γ := fun ρ g => (fa ρ g).bind fun x g => if T x = true then (fs ρ g).bind fun l g => F x l g else .bad
theorem dx_meth {γ : Type} {RR : Wd → Wd → V → γ → Prop} (L : Lft RR) {T id : String} {name : Str} {cpos : Pos} {r : V → List V → Hp → VK → Prop} {k : D → Bool} {F : D → List D → G → Re γ} (pa : PlainAttrs T) (slot : Slot T name id) (hty : typeOf (.builtin id) = pure (.type "method_descriptor"))
    (hm : ∀ X, CtxOk C X → MtR X id r) (hT : ∀ w v d, Wok w → Bv C.k.K w v d → k d = true → tyW C.k.K T v w.H) (hr : ∀ w σ x v l us Q, Wok w → Bv C.k.K w v x → BvL C.k.K w us l → Po C.k C.W RR w σ Q (F x l w.g) → r v us w.H Q)
    (ha : DB C o fa) (hs : DAB C (e :: es) fs)
    (hbase : ∀ env, attributeBase o name env (eval o env) = eval o env := by intro _; rfl)
    (hfew : ∀ env, ((backTo cpos (starEach (e :: es) env)).all (fun x => !x.1) && (backToKw cpos (keywordEach [] env)).all (fun x => x.1.isSome)
      && decide ((e :: es).length + ([] : List Keyword).length + (if ([] : List Keyword).isEmpty then 0 else 1) < 30)) = true := by intro _; rfl)
    (hline : (apos.endLine == cpos.line) = true := by rfl) (n : NoStar e es := by intro _; rfl) (hpl : ∀ env, (backTo cpos (starEach es env)).any (·.1) = false := by intro _; rfl) :
    DX C RR (.Call (.Attribute o name apos) (e :: es) [] cpos) (eMeth k F fa fs) := by
  obtain ⟨ta, qa, va⟩ := ha
  obtain ⟨ts, qs, vs⟩ := hs
  refine ⟨tBW C.k.K T r ta ts, fun X h => by rw [← h.K]; exact pe_bw pa slot hty (hm X h) (qa X h) (qs X h) (hbase _) (hfew _) hline (n _) (hpl _), ⟨fun w0 w ρ σ Q R h => va.run w0 w ρ σ _ R (Po.bind L h fun x v w1 e1 g1 o1 r1 h1 => ?_)⟩⟩
  split at h1
  · rename_i z
    exact ⟨hT w1 v x o1 r1 z, vs.run w0 w1 ρ σ _ (R.step g1 o1) (Po.bind L h1 fun l us w2 e2 g2 o2 r2 h2 => hr w2 σ x v l us Q o2 (Bv.grow r1 g2) r2 h2)⟩
  · exact h1.elim
def D.isTup : D → Bool
  | .tup _ => true
  | _ => false
def D.isLst : D → Bool
  | .lst _ => true
  | _ => false
theorem tup_ty {K : PySem.W.Frag} : ∀ w v d, Wok w → Bv K w v d → d.isTup = true → tyW K "tuple" v w.H := fun w v d o b h => by
  cases d with
  | tup l =>
    obtain ⟨a, xs, e, s, _, _⟩ := b.tup o
    exact .inr ⟨rfl, a, xs, e, s⟩
  | _ => cases h
theorem lst_ty {K : PySem.W.Frag} : ∀ w v d, Wok w → Bv K w v d → d.isLst = true → tyW K "list" v w.H := fun w v d o b h => by
  cases d with
  | lst l =>
    obtain ⟨a, xs, e, s, _⟩ := b.lst o
    subst e
    exact .inl (.inl ⟨rfl, xs, .inl (.inl s)⟩)
  | _ => cases h
/-- t.count(x) -/
theorem pyL_countP (x : D) : ∀ l : List D, ((pyL l).countP fun y => PyData.eqv y x.py) = l.countP fun y => eqD y x
  | [] => rfl
  | y :: r => by rw [pyL, List.countP_cons, List.countP_cons, pyL_countP x r]; rfl
def rCountT (K : PySem.W.Frag) : V → List V → Hp → VK → Prop := fun x xs H Q => ∃ (y : V) (d : PyData) (ds : List PyData), xs = [y] ∧ Dp K H x (.tuple ds) ∧ Dp K H y d ∧ SeqAt.shaped (.tuple ds) = true ∧ SeqAt.shaped d = true ∧ Q (.int ((ds.countP fun z => PyData.eqv z d : Nat) : Int)) H
theorem mt_countT {X : Cx} (hu : X.A.units + 65 < cLine) : MtR X "tuple.count" (rCountT X.K) := by
  intro pins s σ H x xs v us Q I rx rxs h
  obtain ⟨y, d, ds, rfl, hl, hy, sl, sd, q⟩ := h
  obtain ⟨u, rfl, ry⟩ := vals1 rxs
  obtain ⟨as, r1⟩ := Dp.reads I _ _ _ hl rx
  obtain ⟨bs, r2⟩ := Dp.reads I d y u hy ry
  cases r1 with
  | @tuple a o ws n _ _ ho hc hd rs =>
    have c1 := SeqAt.canLay_of_shaped sl
    have c2 := SeqAt.depth_of_shaped sl
    refine SeqAt.count_tuple_data (xs := ds) (d := d) ⟨o, ho, hc, n, hd⟩ rs r2 ?_ (PyData.plain_of_canLay0 d (SeqAt.canLay_of_shaped sd)) ?_ ⟨.int _, H, I.tok _, ⟨_, rfl⟩, q⟩
    · exact PyData.plainAll_of_canLay0 ds (by simpa [PyData.canLay0] using c1)
    · rw [PyData.depth] at c2
      have := Nat.min_le_left (PyData.depthAll ds) d.depth
      omega
def countF : D → List D → G → Re D
  | .tup l, [x], g => if dn deep (.tup l) && dn deep x then .ok (.int ((l.countP fun z => eqD z x : Nat) : Int)) g else .bad
  | _, _, _ => .bad
theorem de_count {cpos : Pos} (ha : DB C o fa) (hs : DAB C [e] fs)
    (hbase : ∀ env, attributeBase o "count" env (eval o env) = eval o env := by intro _; rfl)
    (hfew : ∀ env, ((backTo cpos (starEach [e] env)).all (fun x => !x.1) && (backToKw cpos (keywordEach [] env)).all (fun x => x.1.isSome)
      && decide ([e].length + ([] : List Keyword).length + (if ([] : List Keyword).isEmpty then 0 else 1) < 30)) = true := by intro _; rfl)
    (hline : (apos.endLine == cpos.line) = true := by rfl) (n : NoStar e [] := by intro _; rfl) : DE C (.Call (.Attribute o "count" apos) [e] [] cpos) (eMeth D.isTup countF fa fs) := by
  refine dx_meth (lft_D _) PySem.F.plainAttrs_tuple PySem.F.slot_tuple_count PySem.F.type_tuple_count (r := rCountT C.k.K) (fun X h => by rw [← h.K]; exact mt_countT h.u65) tup_ty (fun w σ x v l us Q o bx bl q => ?_) ha hs hbase hfew hline n (fun _ => rfl)
  unfold countF at q
  split at q
  · split at q
    · rename_i z
      rw [Bool.and_eq_true] at z
      obtain ⟨u, e, bu⟩ := bl.one
      refine ⟨u, _, _, e, bx.dp o z.1, bu.dp o z.2, dn_shaped z.1, dn_shaped z.2, ?_⟩
      rw [pyL_countP]
      exact q _ w (.refl o) (.int _)
    · exact q.elim
  · exact q.elim
end
end Dl
set_option Elab.async false
set_option linter.all false
set_option maxRecDepth 100000
set_option maxHeartbeats 1000000
namespace Dl
open PySem PySem.Spec PyProof.Rows L2
/-! ### isinstance -/
def D.ty : D → String
  | .non => "NoneType"
  | .bl _ => "bool"
  | .int _ => "int"
  | .str _ => "str"
  | .tup _ => "tuple"
  | .lst _ => "list"
  | .dic _ _ => "dict"
  | .scr _ => "list"
  | .hdl => "dict"
section
variable {C : Ctx} {pos p p2 apos : Pos} {a b c e o : Expr} {es rest : List Expr} {fa fb fc : Me D} {fs : Me (List D)} {x : Str}
theorem ty_of {K : PySem.W.Frag} {w : Wd} {v : V} {d : D} (o : Wok w) (bv : Bv K w v d) : TyX K w.H v (.type d.ty) := by
  cases d with
  | non => cases bv.non; exact .base .non
  | bl b => cases bv.bl; exact .base (.bl b)
  | int i => cases bv.int; exact .base (.int i)
  | str x => cases bv.str; exact .base (.str x)
  | tup l =>
    obtain ⟨a, xs, e, s, _, _⟩ := bv.tup o
    subst e
    rcases s with ⟨ob, s, _⟩ | ⟨ob, its, n, h1, h2, _⟩
    · exact .fTuple s
    · exact .kTuple h1 h2
  | lst l =>
    obtain ⟨a, xs, e, s, _⟩ := bv.lst o
    subst e
    exact .base (.lst s)
  | dic ks vs =>
    rcases bv with r | ⟨_, _, _, _, h2, _⟩ | ⟨_, _, _, _, _, h2, _⟩
    · cases r with
      | dic h _ _ => exact .base (.dK (o.sub _ _ h))
    · cases h2
    · rename_i e1 h3; subst e1; exact .base (.dK h3.1)
  | scr l =>
    obtain ⟨a, e, s⟩ := bv.scr o
    subst e
    rcases s with (s | ⟨ob, s⟩) | ⟨ob, its, n, h1, h2, _⟩
    · exact .base (.lst s)
    · exact .base (.frz s)
    · exact .kList h1 h2
  | hdl =>
    rcases bv with r | ⟨_, _, _, _, h2, _⟩ | ⟨_, _, _, _, _, h2, _⟩
    · cases r with
      | hdl h => exact .base (.dK (o.drw _ h).hm)
    · cases h2
    · cases h2
/-- is a d one of the type T -/
def isT (T : String) (d : D) : Option Bool := kitB d.ty T
def eIs (T : String) (fa : Me D) : Me D := eUn (fun x g => bD (isT T x) g) fa
theorem de_isi {T : String} {y : Str} (ha : DB C a fa) (hm : C.k.mg "isinstance" = none) (hm2 : C.k.mg y = none) (hv : bootBuiltins y = some (.type T)) (hg : glB C.sc "isinstance" = true := by rfl) (hg2 : glB C.sc y = true := by rfl)
    (hn : y ≠ "__name__" := by decide +kernel) (hd : (y == ("__debug__" : Str)) = false := by decide +kernel) (n : NoStar a [.Name y p2] := by intro _; rfl) : DE C (.Call (.Name "isinstance" p) [a, .Name y p2] [] pos) (eIs T fa) := by
  obtain ⟨ta, pa, va⟩ := ha
  refine ⟨tCB (rIsi C.k.K) (tCons ta (tCons (tC (.ty T)) tNil)), fun X h => ?_, ⟨fun w0 w ρ σ Q R h => va.run w0 w ρ σ _ R (Po.bind (lft_D _) h fun x v w1 e1 g1 o1 r1 h1 => ?_)⟩⟩
  · have pt : PE X (.Name y p2) (tC (.ty T)) := pe_bltn (h.gl hg2) (by rw [h.mg]; exact hm2) hv rfl hn hd
    rw [← h.K]
    exact pe_callB call_isi (h.gl hg) (by rw [h.mg]; exact hm) boot_isinstance (pa_cons (pa X h) (pa_cons pt pa_nil) (n _)) (by decide +kernel) (by decide +kernel) (n _)
  · have h1 : Po C.k C.W (rD C.k) w1 σ Q (bD (isT T x) w1.g) := h1
    cases z : isT T x with
    | none => rw [z] at h1; exact h1.elim
    | some k =>
      rw [z] at h1
      exact ⟨v, .ty T, _, _, k, rfl, .ty T, ty_of o1 r1, kit_ty z, h1 _ w1 (.refl o1) (.bl _)⟩
/-! ### repr -/
end
def sumO : List (Option Nat) → Option Nat
  | [] => some 0
  | some n :: r => (sumO r).map (n + ·)
  | none :: _ => none
/-- a bound of how long the text of a value is -/
def cst : Nat → D → Option Nat
  | _, .non => some 4
  | _, .bl _ => some 5
  | _, .int i => if i.natAbs < 10 ^ 60 then some 64 else if i.natAbs.log2 < 1920 then some 1930 else none
  | _, .str x => if PyData.strOk x = true then some (10 * x.length + 2) else none
  | n + 1, .tup l => (sumO (l.map (cst n))).map (· + (2 * l.length + 3))
  | n + 1, .lst l => (sumO (l.map (cst n))).map (· + (2 * l.length + 3))
  | _, _ => none
theorem sumO_cons {o : Option Nat} {r : List (Option Nat)} {n : Nat} (h : sumO (o :: r) = some n) : ∃ a b, o = some a ∧ sumO r = some b ∧ n = a + b := by
  cases o with
  | none => cases h
  | some a =>
    rw [sumO] at h
    cases q : sumO r with
    | none => rw [q] at h; cases h
    | some b => rw [q] at h; cases h; exact ⟨a, b, rfl, rfl, rfl⟩
theorem shL_len : ∀ l : List D, (PyData.shownAll (pyL l)).length = l.length
  | [] => rfl
  | x :: r => by rw [pyL, PyData.shownAll, List.length_cons, shL_len r, List.length_cons]
theorem log2_60 {n : Nat} (h : n < 10 ^ 60) : n.log2 < 1920 := by
  by_cases z : n = 0
  · subst z; decide
  · exact (Nat.log2_lt z).mpr (Nat.lt_of_lt_of_le h (by decide +kernel))
theorem cst_ok : ∀ (n : Nat) (d : D) (c : Nat), cst n d = some c → d.py.showable = true ∧ d.py.hasDict = false ∧ d.py.depth ≤ n ∧ d.py.shown.length ≤ c ∧ dn n d = true := by
  intro n
  have base : ∀ (n : Nat) (d : D) (c : Nat), (∀ l, d ≠ .tup l) → (∀ l, d ≠ .lst l) → cst n d = some c → d.py.showable = true ∧ d.py.hasDict = false ∧ d.py.depth ≤ n ∧ d.py.shown.length ≤ c ∧ dn n d = true := by
    intro n d c h1 h2 h
    cases d with
    | non =>
      have h : some 4 = some c := by cases n <;> exact h
      cases h
      exact ⟨rfl, rfl, Nat.zero_le _, by show ("None" : Str).length ≤ 4; decide +kernel, by cases n <;> rfl⟩
    | bl b =>
      have h : some 5 = some c := by cases n <;> exact h
      cases h
      exact ⟨rfl, rfl, Nat.zero_le _, by cases b <;> (show (Str.ofString _).length ≤ 5) <;> decide +kernel, by cases n <;> rfl⟩
    | int i =>
      have h : (if i.natAbs < 10 ^ 60 then some 64 else if i.natAbs.log2 < 1920 then some 1930 else none) = some c := by cases n <;> exact h
      have e : (Str.ofString (toString i)).length = (toString i).length := PySem.ofString_length _
      split at h
      · rename_i q
        cases h
        refine ⟨decide_eq_true (log2_60 q), rfl, Nat.zero_le _, ?_, by cases n <;> rfl⟩
        show (Str.ofString (toString i)).length ≤ 64
        rw [e]
        exact Nat.le_trans (int_text_length_le10 (by decide) q) (by decide)
      · split at h
        · rename_i q
          cases h
          refine ⟨decide_eq_true q, rfl, Nat.zero_le _, ?_, by cases n <;> rfl⟩
          show (Str.ofString (toString i)).length ≤ 1930
          rw [e]
          exact Nat.le_trans (int_text_length_le (by decide) q) (by decide)
        · cases h
    | str x =>
      have h : (if PyData.strOk x = true then some (10 * x.length + 2) else none) = some c := by cases n <;> exact h
      split at h
      · rename_i q
        cases h
        refine ⟨rfl, rfl, Nat.zero_le _, ?_, by cases n <;> exact q⟩
        refine StrLaws.reprText_len x fun k hk => ?_
        have q : x.cps.all (fun k => decide (k < 0x110000)) = true := q
        rw [← Array.all_toList, List.all_eq_true] at q
        have := of_decide_eq_true (q k hk)
        omega
      · cases h
    | tup l => exact absurd rfl (h1 l)
    | lst l => exact absurd rfl (h2 l)
    | dic ks vs => cases n <;> cases h
    | scr l => cases n <;> cases h
    | hdl => cases n <;> cases h
  induction n with
  | zero =>
    intro d c h
    cases d with
    | tup l => cases h
    | lst l => cases h
    | _ => exact base 0 _ c (by intro l q; cases q) (by intro l q; cases q) h
  | succ n ih =>
    have all : ∀ (l : List D) (m : Nat), sumO (l.map (cst n)) = some m → PyData.showableAll (pyL l) = true ∧ PyData.hasDictAll (pyL l) = false ∧ PyData.depthAll (pyL l) ≤ n ∧ ((PyData.shownAll (pyL l)).map (·.length)).sum ≤ m ∧ l.all (dn n) = true := by
      intro l
      induction l with
      | nil => intro m h; cases h; exact ⟨rfl, rfl, Nat.zero_le _, Nat.le_refl _, rfl⟩
      | cons x r ihr =>
        intro m h
        rw [List.map_cons] at h
        obtain ⟨u, v, h1, h2, e⟩ := sumO_cons h
        subst e
        obtain ⟨a1, a2, a3, a4, a5⟩ := ih x u h1
        obtain ⟨b1, b2, b3, b4, b5⟩ := ihr v h2
        refine ⟨by rw [pyL, PyData.showableAll, a1, b1]; rfl, by rw [pyL, PyData.hasDictAll, a2, b2]; rfl, by rw [pyL, PyData.depthAll]; omega, ?_, by rw [List.all_cons, a5, b5]; rfl⟩
        rw [pyL, PyData.shownAll, List.map_cons, List.sum_cons]
        omega
    intro d c h
    cases d with
    | tup l =>
      have h : (sumO (l.map (cst n))).map (· + (2 * l.length + 3)) = some c := h
      cases q : sumO (l.map (cst n)) with
      | none => rw [q] at h; cases h
      | some m =>
        rw [q] at h
        cases h
        obtain ⟨a1, a2, a3, a4, a5⟩ := all l m q
        refine ⟨a1, a2, by rw [D.py, PyData.depth]; omega, ?_, a5⟩
        rw [D.py, PyData.shown]
        show _ ≤ m + (2 * l.length + 3)
        have := tupleText_len_le (PyData.shownAll (pyL l))
        rw [shL_len] at this
        omega
    | lst l =>
      have h : (sumO (l.map (cst n))).map (· + (2 * l.length + 3)) = some c := h
      cases q : sumO (l.map (cst n)) with
      | none => rw [q] at h; cases h
      | some m =>
        rw [q] at h
        cases h
        obtain ⟨a1, a2, a3, a4, a5⟩ := all l m q
        refine ⟨a1, a2, by rw [D.py, PyData.depth]; omega, ?_, a5⟩
        rw [D.py, PyData.shown]
        show _ ≤ m + (2 * l.length + 3)
        have := listText_len_le (PyData.shownAll (pyL l))
        rw [shL_len] at this
        omega
    | _ => exact base (n + 1) _ c (by intro l q; cases q) (by intro l q; cases q) h
/-- the text of a value, as repr tells it -/
def shD (d : D) : Str := d.py.shown
def rRepr (K : PySem.W.Frag) : List V → Hp → VK → Prop := fun xs H Q => ∃ x d, xs = [x] ∧ Dp K H x d ∧ d.showable = true ∧ d.hasDict = false ∧ d.depth ≤ deep ∧ d.shown.length ≤ sizeLine ∧ Q (.str d.shown) H
theorem call_repr {X : Cx} (hg : X.A.guards = some []) (hu : X.A.units + 65 < cLine) : CallR X (.builtin "repr") (rRepr X.K) := by
  intro pins s σ H xs us Q I r h
  obtain ⟨x, d, rfl, hd, h1, h2, h3, h4, q⟩ := h
  obtain ⟨u, rfl, rx⟩ := vals1 r
  obtain ⟨as, rd⟩ := Dp.reads I d x u hd rx
  have fin : ∀ tk, EP X pins σ Q (.str d.shown tk) { s with toks := s.toks + 1 } := fun tk => ⟨.str d.shown, H, I.tok _, ⟨_, rfl⟩, q⟩
  have obj : ∀ a, u = .ref a → wpAny (model X.prog X.w) X.A (call (.builtin "repr") [.ref a]) (EP X pins σ Q) X.xe s := fun a e => by
    subst e
    refine repr_of_reads' rd h1 (fun z => by rw [h2] at z; cases z) hg (by have : d.depth ≤ 40 := h3; omega) (fun _ _ e => e) (fun h' t tk k => ?_) h4
    exact ⟨.str d.shown, H, I.kept (t' := tk) k, ⟨_, rfl⟩, q⟩
  cases rd with
  | none => exact PySem.P.repr_of_none (fin _)
  | bool b => exact PySem.P.repr_of_bool (fin _)
  | int i t => exact PySem.P.repr_of_int (of_decide_eq_true h1) (fin _)
  | str x t => exact PySem.P.repr_of_str (fin _) h4
  | list => exact obj _ rfl
  | tuple => exact obj _ rfl
  | dict => exact obj _ rfl
def reprF : List D → G → Re D
  | [d], g => match cst deep d with
    | some c => if c ≤ 16000000 then .ok (.str (shD d)) g else .bad
    | none => .bad
  | _, _ => .bad
theorem bi_repr {C : Ctx} : Bi C (rD C.k) (.builtin "repr") (rRepr C.k.K) reprF where
  hc := fun X h => by rw [← h.K]; exact call_repr h.gd h.u65
  hr := by
    intro w σ xs vs Q o b q
    unfold reprF at q
    split at q
    · rename_i _ d
      split at q
      · rename_i c hc
        split at q
        · rename_i z
          obtain ⟨v, e, bv⟩ := b.one
          obtain ⟨h1, h2, h3, h4, h5⟩ := cst_ok deep d c hc
          exact ⟨v, d.py, e, bv.dp o h5, h1, h2, h3, Nat.le_trans h4 (Nat.le_trans z (by rw [sizeLine_eq]; decide)), q _ w (.refl o) (.str _)⟩
        · exact q.elim
      · exact q.elim
    · exact q.elim
end Dl
set_option Elab.async false
set_option linter.all false
set_option maxRecDepth 100000
set_option maxHeartbeats 1000000
namespace Dl
open PySem PySem.Spec PyProof.Rows L2
/-! ### enumerate of a tuple -/
theorem meets_enum1 {v : Value} {o : Obj} {H : Heap → Prop} (B : Begins v o H) :
    Meets (Builtin.«enumerate.__new__» ⟨[.type "enumerate", v], []⟩) (fun _ R s => H s.heap ∧
      R (.ok (.ret (.ref (s.heap.push o).objs.size))) { s with heap := (s.heap.push o).push { cls := .type "enumerate", data := .fields #[.none, .bool false, .ref s.heap.objs.size, rawInt 0, .none, .none] } }) :=
  .of_wp fun prog w A R s h => by
    obtain ⟨hp, g, d, tk, os⟩ := s; obtain ⟨h1, h⟩ := h
    have hsub := sub_enumerate
    have q1 : ∀ {A' : Around} {E : Value → Shared → Prop} {Q : Value → Shared → Prop}, Q (.ref hp.objs.size) ⟨hp.push o, g, d, tk, os⟩ → wpAny (model prog w) A' (pyIter v) Q E ⟨hp, g, d, tk, os⟩ :=
      fun q => B.iter prog w _ _ ⟨hp, g, d, tk, os⟩ _ h1 q
    wp_walk using q1
    refine wpAny_stack_any fun st => wpAny_pure ?_
    split
    · rename_i c _ _ _ _ _
      cases (c == Value.type "enumerate")
      · wp_walk using q1
        exact ⟨_, rfl, h⟩
      · wp_walk using q1
        exact ⟨_, rfl, h⟩
    · wp_walk using q1
      exact ⟨_, rfl, h⟩
theorem call_enum1 {prog : Program} {w : World} {A : Around} {E : Value → Shared → Prop} {s : Shared} {v : Value} {o : Obj} {H : Heap → Prop} {Q : Value → Shared → Prop} (B : Begins v o H) (h1 : H s.heap)
    (h : ∀ h', IsEnum h' (s.heap.objs.size + 1) s.heap.objs.size 0 .none → h'.get? s.heap.objs.size = some o → h'.objs.size = s.heap.objs.size + 2 →
      (∀ b o, s.heap.get? b = some o → h'.get? b = some o) → Q (.ref (s.heap.objs.size + 1)) { s with heap := h' }) :
    wpAny (model prog w) A (call (.type "enumerate") [v]) Q E s := by
  refine callType_new F.called_enumerate (by decide) (F.typeCall_enumerate_1 _) (F.newCall_enumerate_1 _) (fun obj => F.args_object_init_2 obj _) F.entry_enumerate_new (meets_enum1 B) ⟨h1, ?_⟩
  have hz : (s.heap.push o).objs.size = s.heap.objs.size + 1 := Heap.size_push ..
  show _ ∧ _
  rw [hz]
  have he : IsEnum ((s.heap.push o).push { cls := .type "enumerate", data := .fields #[.none, .bool false, .ref s.heap.objs.size, rawInt 0, .none, .none] }) (s.heap.objs.size + 1) s.heap.objs.size 0 .none := by
    have z := Heap.get?_push_size (s.heap.push o) (o := { cls := .type "enumerate", data := .fields #[.none, .bool false, .ref s.heap.objs.size, rawInt 0, .none, .none] }) rfl
    rw [hz] at z; exact z
  exact ⟨⟨_, he, rfl⟩, h _ he (Heap.get?_push_of_some _ (Heap.get?_push_size _ B.free)) (by rw [Heap.size_push, hz]) fun b o x => Heap.get?_push_of_some _ (Heap.get?_push_of_some _ x)⟩
/-- the tuple at a, each item in a new pair -/
def ItnT (K : PySem.W.Frag) (a : Addr) : It :=
  ⟨fun i H => ∃ (xs : List V) (x : V), SqT K H a xs ∧ xs[i]? = some x, fun i H v H' => ∃ T x, v = .ref T ∧ H T = none ∧ H' = upd H T (.tup [.int (i : Nat), x]) ∧ ∀ xs, SqT K H a xs → xs[i]? = some x, fun i H => ∃ xs : List V, SqT K H a xs ∧ xs.length = i⟩
theorem tup_ne {h : Heap} {a b : Addr} {its : Array Value} {o : Obj} (t : IsTup h a its) (e : h.get? b = some o) (n : o.cls ≠ .type "tuple") : a ≠ b := fun q => by
  obtain ⟨o', e', c, _⟩ := t
  rw [q, e] at e'
  cases e'
  exact n c
theorem turn_enumT {P : Program} {w : World} {K : PySem.W.Frag} {elts : List Expr} {kk : Nat} {tpos : Pos} (a e it : Addr) :
    Turn P w K (.Tuple elts kk tpos) (ItnT K a) [e, it] e (fun i h => (∃ old, IsEnum h e it ((i : Nat) : Int) old) ∧ h.IsTupleIter it a i ∧ e ≠ it) where
  mem := by simp
  obj := fun i h st b hb => by
    obtain ⟨⟨old, he⟩, ⟨o, ho, hc, hd⟩, _⟩ := st
    have e' : b = e ∨ b = it := by simpa using hb
    rcases e' with z | z
    · rw [z]; exact ⟨_, he, fun v q => nomatch q⟩
    · rw [z]; exact ⟨o, ho, fun v q => by rw [hd] at q; cases q⟩
  keep := fun i h h' st k => let ⟨⟨old, he⟩, hi, hne⟩ := st; ⟨⟨old, k e (by simp) _ he⟩, hi.at fun o q => k it (by simp) o q, hne⟩
  item := by
    intro X hP hw hK hc i pins s σ H E I hf st hg
    subst hP hw hK
    obtain ⟨⟨old, he⟩, hit, hne⟩ := st
    obtain ⟨xs, x, hq, hx⟩ := hg
    obtain ⟨its, rv, p, hz⟩ := I.tuple hq
    obtain ⟨u, hu, ru⟩ := rv.get hx
    have hel : e < s.heap.objs.size := Heap.lt_size he
    have hil : it < s.heap.objs.size := by obtain ⟨_, q, _⟩ := hit; exact Heap.lt_size q
    have nai : a ≠ it := by obtain ⟨o, q, c, _⟩ := id hit; exact tup_ne p q (by rw [c]; intro q; injection q with q; exact absurd q (by decide))
    have nae : a ≠ e := tup_ne p he (fun q => by injection q with q; exact absurd q (by decide))
    have hlt : i < its.toArray.size := by rw [List.size_toArray, ← rv.length]; exact (List.getElem?_eq_some_iff.mp hx).1
    refine wpAny_pyNext_enum_itemD (Draws.tuple (prog := X.prog) (w := X.w) (A := X.A.in1) (I.ok.hd hc) it a nai its.toArray) he ⟨hit, p⟩ hlt hne (by simp; exact ⟨hne, Ne.symm nae⟩) fun y h' tk hy ho st' hT hsz hk => ?_
    obtain ⟨hit', _⟩ := st'
    have ey : y = u := by
      have h1 : its.toArray[i]? = some y := hy
      rw [show its.toArray[i]? = some u by simpa using hu] at h1
      exact (Option.some.inj h1).symm
    subst ey
    refine ⟨_, rfl, wpAny_letOwnedTupleGo_enum (s := { s with heap := h', toks := tk + 1 }) ho fun h'' he' sb => ?_⟩
    have hT2 : h''.get? s.heap.objs.size = some { cls := .type "tuple", data := .seq #[.int i tk, y] } := (sb.2 _ (Nat.ne_of_gt hel)).trans hT
    have new : ObjOk X.prog X.w (upd H s.heap.objs.size (.tup [.int (i : Nat), x])) h'' s.heap.objs.size (.tup [.int (i : Nat), x]) :=
      ⟨by show 2 ≤ sizeLine; decide, [.int i tk, y], .cons ⟨_, rfl⟩ (.cons ru .nil), ⟨_, hT2, rfl, _, rfl⟩⟩
    have I1 : Inv X pins σ (upd H s.heap.objs.size (.tup [.int (i : Nat), x])) { s with heap := h'', toks := tk + 1 } :=
      I.turnedNew (ch := [e, it]) (fun b ob hb q => (sb.2 b (fun z => hb (by simp [z]))).trans (hk b ob (fun z => hb (by simp [z])) (fun z => hb (by simp [z])) q)) hf (Nat.le_refl _) new
    refine ⟨.ref s.heap.objs.size, _, I1, rfl, ⟨_, x, rfl, I.hok.fresh (Nat.le_refl _), rfl, fun ys hy => by rw [I.tuple_inj hy hq]; exact hx⟩, ⟨⟨y, ?_⟩, hit'.at fun o q => (sb.2 it (Ne.symm hne)).trans q, hne⟩, fun b hb => ?_⟩
    · have e1 : ((i + 1 : Nat) : Int) = (i : Int) + 1 := by omega
      rw [e1]; exact he'
    · have hb' : b < s.heap.objs.size := by
        have e' : b = e ∨ b = it := by simpa using hb
        rcases e' with z | z
        · rw [z]; exact hel
        · rw [z]; exact hil
      rw [upd_ne (Nat.ne_of_lt hb')]
      exact (hf b hb).1
  done := by
    intro X hP hw hK hc i pins s σ H E I hf st hg
    subst hP hw hK
    obtain ⟨⟨old, he⟩, hit, hne⟩ := st
    obtain ⟨xs, hq, hx⟩ := hg
    obtain ⟨its, rv, p, hz⟩ := I.tuple hq
    obtain ⟨f0, f1, f2, f3, f4, f5⟩ := hf it (by simp)
    have nai : a ≠ it := by obtain ⟨o, q, c, _⟩ := id hit; exact tup_ne p q (by rw [c]; intro q; injection q with q; exact absurd q (by decide))
    have hl := rv.length
    have D := Draws.tuple (prog := X.prog) (w := X.w) (A := X.A.in1) (I.ok.hd hc) it a nai its.toArray
    have hl2 : its.toArray.size = i := by rw [List.size_toArray]; omega
    rw [hl2] at D
    exact wpAny_pyNext_enum_endD D he ⟨hit, p⟩ fun h' eb => ⟨rfl, I.turned (t' := s.toks) (fun b o hb q => eb b o hb q) f0 f1 f3 f4 f5⟩
  self := fun A i s Q E st h => let ⟨⟨_, he⟩, _⟩ := st; wpAny_pyIter_enum he h
end Dl
set_option Elab.async false
set_option linter.all false
set_option maxRecDepth 100000
set_option maxHeartbeats 1000000
namespace Dl
open PySem PySem.Spec PyProof.Rows L2
/-! ### range(i, j) of any whole numbers -/
theorem turn_long {P : Program} {w : World} {K : PySem.W.Frag} {tg : Expr} (it : Addr) (lo c : Int) (n : Nat) : Turn P w K tg (Itc lo c n) [it] it (fun i h => IsLongIter h it (lo + (i : Nat) * c) ((n : Int) - (i : Nat)) c) where
  mem := by simp
  obj := fun i h st b hb => by
    cases (show b = it by simpa using hb)
    exact ⟨_, st, fun v z => nomatch z⟩
  keep := fun i h h' st k => k it (by simp) _ st
  item := by
    intro X hP hw hK hc i pins s σ H E I hf st hg
    subst hP hw hK
    obtain ⟨f0, f1, f2, f3, f4, f5⟩ := hf it (by simp)
    refine (Walks.longrange (prog := X.prog) (w := X.w) (I.ok.hd hc) it lo c n).item i s _ _ hg st fun v h' tk hv st' kk => ?_
    obtain ⟨t, rfl⟩ := hv
    have J : Inv X pins σ H { s with heap := h', toks := tk } := I.turned (fun b o hb e => kk b o (by simpa using hb) e) f0 f1 f3 f4 f5
    exact ⟨_, rfl, go_of (s := { s with heap := h', toks := tk }) (n := "longrange_iterator") st' rfl rfl (by decide) ⟨.int (lo + (i : Nat) * c), H, J, ⟨t, rfl⟩, ⟨rfl, rfl⟩, st', fun b hb => (hf b hb).1⟩⟩
  done := by
    intro X hP hw hK hc i pins s σ H E I hf st hg
    subst hP hw hK
    obtain ⟨f0, f1, f2, f3, f4, f5⟩ := hf it (by simp)
    exact wpAny_pyNext_long_end (I.ok.hd hc) st (by have : n ≤ i := hg; omega) fun h' eb => ⟨rfl, I.turned (t' := s.toks) (fun b o hb e => eb b o hb e) f0 f1 f3 f4 f5⟩
  self := fun A i s Q E st h => wpAny_pyIter_longiter st h
def iR2 (ta : TA) : TI := fun σ H R => ta σ H fun vs H1 => ∃ (i j : Int), vs = [.int i, .int j] ∧ R (Itc i 1 (j - i).toNat) H1
theorem pi_r2 {X : Cx} {tg a b : Expr} {ta : TA} {p pos : Pos} (hg : Gl X "range") (hm : X.mg "range" = none) (ha : PA X [a, b] ta) (hs : starEach [a, b] X.env = [(false, eval a X.env), (false, eval b X.env)]) (hs2 : starEach [b] X.env = [(false, eval b X.env)]) :
    PI X tg (.Call (.Name "range" p) [a, b] [] pos) (iR2 ta) := by
  refine ⟨fun pins s σ H R I h => ?_⟩
  refine Call_ (ld_blt I hg hm boot_range (PyProof.Rows.callWith_type1 (thn (ha.run pos pins s σ H _ I h) fun us s1 ⟨vs, H1, I1, r1, i, j, e, q⟩ => ?_) (by rw [hs, hs2]) (by rw [hs2]; rfl)))
  subst e
  cases r1 with
  | cons r rr =>
  cases rr with
  | cons r' rr =>
    cases rr
    obtain ⟨t, rfl⟩ := r
    obtain ⟨t', rfl⟩ := r'
    refine call_range_2 ?_
    have z0 : i + ((0 : Nat) : Int) * 1 = i := by simp
    have z1 : (((j - i).toNat : Nat) : Int) - ((0 : Nat) : Int) = Builtin.Range.rangeSize i j 1 := by rw [PyProof.Rows.rangeSize_nat]; simp
    have I2 : Inv X pins σ H1 { s1 with heap := s1.heap.push { cls := .type "range", data := .fields #[.int i t, .int j t', .int 1 s1.toks] }, toks := s1.toks + 1 } := I1.kept (t' := s1.toks + 1) fun b o e => Heap.get?_push_of_some _ e
    by_cases sm : Builtin.Range.small i j 1 = true
    · refine wpAny_pyIter_range (IsRange.new ..) sm ?_
      refine pi_one (tk := s1.toks + 1) I2 _ (turn_rangeC _ i 1 (j - i).toNat) ?_ q
      show IsRangeIter _ _ (i + ((0 : Nat) : Int) * 1) ((((j - i).toNat : Nat) : Int) - ((0 : Nat) : Int)) 1
      rw [z0, z1]
      exact Heap.get?_push_size _ rfl
    · refine wpAny_pyIter_longrange (IsRange.new ..) (by simpa using sm) ?_
      refine pi_one (tk := s1.toks + 1) I2 _ (turn_long _ i 1 (j - i).toNat) ?_ q
      show IsLongIter _ _ (i + ((0 : Nat) : Int) * 1) ((((j - i).toNat : Nat) : Int) - ((0 : Nat) : Int)) 1
      rw [z0, z1]
      exact Heap.get?_push_size _ rfl
end Dl
set_option Elab.async false
set_option linter.all false
set_option maxRecDepth 100000
set_option maxHeartbeats 1000000
namespace Dl
open PySem PySem.Spec PyProof.Rows L2
/-! ### what is walked -/
/-- at a turn: a value; or a new tuple, taken apart at once -/
inductive Yd where
  | one (d : D)
  | many (l : List D)
def YdOk (K : PySem.W.Frag) (w : Wd) : Yd → V → Hp → Prop
  | .one d, x, H' => H' = w.H ∧ Rv K w x d
  | .many l, x, H' => ∃ T xs, x = .ref T ∧ w.H T = none ∧ H' = upd w.H T (.tup xs) ∧ RvL K w xs l
structure ItOk (S : Wd → Wd → Prop) (K : PySem.W.Frag) (w : Wd) (J : It) (ys : List Yd) : Prop where
  go : ∀ w', S w w' → Wok w' → ∀ i, i < ys.length → J.go i w'.H
  stop : ∀ w', S w w' → Wok w' → J.stop ys.length w'.H
  yld : ∀ w', S w w' → Wok w' → ∀ i y x H', ys[i]? = some y → J.yld i w'.H x H' → YdOk K w' y x H'
def rI (S : Wd → Wd → Prop) (k : Kt) : Wd → Wd → It → List Yd → Prop := fun _ w J ys => ItOk S k.K w J ys
theorem lft_I (S : Wd → Wd → Prop) (k : Kt) : Lft (rI S k) := fun _ _ _ _ _ _ h => h
def DI (C : Ctx) (S : Wd → Wd → Prop) (tg e : Expr) (f : Me (List Yd)) : Prop := ∃ wi : TI, (∀ X, CtxOk C X → PI X tg e wi) ∧ Ev C (rI S C.k) wi f
theorem DI.grow {C : Ctx} {tg e : Expr} {f : Me (List Yd)} (h : DI C Zl tg e f) : DI C Grow tg e f := by
  obtain ⟨t, p, v⟩ := h
  exact ⟨t, p, ⟨fun w0 w ρ σ Q R h => v.run w0 w ρ σ Q R (h.imp fun w' v a _ _ r => ⟨fun w2 s => r.go w2 s.zl, fun w2 s => r.stop w2 s.zl, fun w2 s => r.yld w2 s.zl⟩)⟩⟩
theorem one_at {l : List D} {i : Nat} {y : Yd} (h : (l.map Yd.one)[i]? = some y) : ∃ d, l[i]? = some d ∧ y = .one d := by
  rw [List.getElem?_map] at h
  cases q : l[i]? with
  | none => rw [q] at h; cases h
  | some d => rw [q] at h; cases h; exact ⟨d, rfl, rfl⟩
section
variable {S : Wd → Wd → Prop} {K : PySem.W.Frag} {w : Wd} {a : Addr} {xs : List V} {ds : List D}
theorem RvL.get2 {i : Nat} {d : D} {x : V} (r : RvL K w xs ds) (h : ds[i]? = some d) (e : xs[i]? = some x) : Rv K w x d := by
  obtain ⟨v, h1, h2⟩ := r.get h
  rw [e] at h1; cases h1
  exact h2
theorem itl_ok (h : ∀ w', S w w' → Wok w' → SqL K w'.H a xs ∧ RvL K w' xs ds) : ItOk S K w (Itl K a) (ds.map Yd.one) where
  go := fun w' s o i hi => by
    obtain ⟨h1, r⟩ := h w' s o
    rw [List.length_map] at hi
    obtain ⟨v, h2, _⟩ := r.get (List.getElem?_eq_getElem hi)
    exact ⟨xs, v, h1, h2⟩
  stop := fun w' s o => by
    obtain ⟨h1, r⟩ := h w' s o
    exact ⟨xs, h1, by rw [r.length, List.length_map]; exact Nat.le_refl _⟩
  yld := fun w' s o i y x H' hy j => by
    obtain ⟨h1, r⟩ := h w' s o
    obtain ⟨d, hd, e⟩ := one_at hy
    subst e
    exact ⟨j.1, r.get2 hd (j.2 xs h1)⟩
theorem itt_ok (h : ∀ w', S w w' → Wok w' → SqT K w'.H a xs ∧ RvL K w' xs ds) : ItOk S K w (Itt K a) (ds.map Yd.one) where
  go := fun w' s o i hi => by
    obtain ⟨h1, r⟩ := h w' s o
    rw [List.length_map] at hi
    obtain ⟨v, h2, _⟩ := r.get (List.getElem?_eq_getElem hi)
    exact ⟨xs, v, h1, h2⟩
  stop := fun w' s o => by
    obtain ⟨h1, r⟩ := h w' s o
    exact ⟨xs, h1, by rw [r.length, List.length_map]; exact Nat.le_refl _⟩
  yld := fun w' s o i y x H' hy j => by
    obtain ⟨h1, r⟩ := h w' s o
    obtain ⟨d, hd, e⟩ := one_at hy
    subst e
    exact ⟨j.1, r.get2 hd (j.2 xs h1)⟩
/-- the items with their numbers -/
def enD (i : Nat) : List D → List Yd
  | [] => []
  | d :: r => .many [.int (i : Nat), d] :: enD (i + 1) r
theorem enD_length : ∀ (l : List D) (i : Nat), (enD i l).length = l.length
  | [], _ => rfl
  | _ :: r, i => congrArg (· + 1) (enD_length r (i + 1))
theorem enD_at : ∀ {l : List D} {i k : Nat} {y : Yd}, (enD k l)[i]? = some y → ∃ d, l[i]? = some d ∧ y = .many [.int ((k + i : Nat) : Int), d]
  | [], _, _, _, h => by simp [enD] at h
  | d :: r, 0, k, y, h => by simp [enD] at h; exact ⟨d, rfl, h.symm⟩
  | d :: r, i + 1, k, y, h => by
    obtain ⟨e, h1, h2⟩ := enD_at (l := r) (i := i) (k := k + 1) (by simpa [enD] using h)
    refine ⟨e, by simpa using h1, ?_⟩
    rw [h2]
    have : k + 1 + i = k + (i + 1) := by omega
    rw [this]
theorem ite_ok (h : ∀ w', S w w' → Wok w' → SqL K w'.H a xs ∧ RvL K w' xs ds) : ItOk S K w (Ite K a) (enD 0 ds) where
  go := fun w' s o i hi => by
    obtain ⟨h1, r⟩ := h w' s o
    rw [enD_length] at hi
    obtain ⟨v, h2, _⟩ := r.get (List.getElem?_eq_getElem hi)
    exact ⟨xs, v, h1, h2⟩
  stop := fun w' s o => by
    obtain ⟨h1, r⟩ := h w' s o
    exact ⟨xs, h1, by rw [r.length, enD_length]; exact Nat.le_refl _⟩
  yld := fun w' s o i y x H' hy j => by
    obtain ⟨h1, r⟩ := h w' s o
    obtain ⟨d, hd, e⟩ := enD_at hy
    subst e
    obtain ⟨T, v, e1, e2, e3, e4⟩ := j
    rw [Nat.zero_add]
    exact ⟨T, _, e1, e2, e3, .cons (.int _) (.cons (r.get2 hd (e4 xs h1)) .nil)⟩
theorem itnt_ok (h : ∀ w', S w w' → Wok w' → SqT K w'.H a xs ∧ RvL K w' xs ds) : ItOk S K w (ItnT K a) (enD 0 ds) where
  go := fun w' s o i hi => by
    obtain ⟨h1, r⟩ := h w' s o
    rw [enD_length] at hi
    obtain ⟨v, h2, _⟩ := r.get (List.getElem?_eq_getElem hi)
    exact ⟨xs, v, h1, h2⟩
  stop := fun w' s o => by
    obtain ⟨h1, r⟩ := h w' s o
    exact ⟨xs, h1, by rw [r.length, enD_length]⟩
  yld := fun w' s o i y x H' hy j => by
    obtain ⟨h1, r⟩ := h w' s o
    obtain ⟨d, hd, e⟩ := enD_at hy
    subst e
    obtain ⟨T, v, e1, e2, e3, e4⟩ := j
    rw [Nat.zero_add]
    exact ⟨T, _, e1, e2, e3, .cons (.int _) (.cons (r.get2 hd (e4 xs h1)) .nil)⟩
/-- lo, lo + c, .., n of them -/
def rgD (lo c : Int) : Nat → List Yd
  | 0 => []
  | n + 1 => .one (.int lo) :: rgD (lo + c) c n
theorem rgD_length : ∀ (n : Nat) (lo c : Int), (rgD lo c n).length = n
  | 0, _, _ => rfl
  | n + 1, lo, c => congrArg (· + 1) (rgD_length n (lo + c) c)
theorem rgD_at : ∀ {n i : Nat} {lo c : Int} {y : Yd}, (rgD lo c n)[i]? = some y → y = .one (.int (lo + (i : Nat) * c))
  | 0, _, _, _, _, h => by simp [rgD] at h
  | n + 1, 0, lo, c, y, h => by simp [rgD] at h; rw [← h]; simp
  | n + 1, i + 1, lo, c, y, h => by
    have := rgD_at (n := n) (i := i) (lo := lo + c) (c := c) (by simpa [rgD] using h)
    rw [this]
    have e : lo + c + (i : Nat) * c = lo + ((i + 1 : Nat) : Int) * c := by rw [Int.natCast_succ, Int.add_mul]; omega
    rw [e]
theorem itr_ok {lo : Int} {n : Nat} : ItOk S K w (Itr lo n) (rgD lo 1 n) where
  go := fun w' s o i hi => by rw [rgD_length] at hi; exact hi
  stop := fun w' s o => by rw [rgD_length]; exact Nat.le_refl _
  yld := fun w' s o i y x H' hy j => by
    rw [rgD_at hy, Int.mul_one]
    exact ⟨j.1, by rw [j.2]; exact .int _⟩
theorem itc_ok {lo c : Int} {n : Nat} : ItOk S K w (Itc lo c n) (rgD lo c n) where
  go := fun w' s o i hi => by rw [rgD_length] at hi; exact hi
  stop := fun w' s o => by rw [rgD_length]; exact Nat.le_refl _
  yld := fun w' s o i y x H' hy j => by
    rw [rgD_at hy]
    exact ⟨j.1, by rw [j.2]; exact .int _⟩
end
/-! ### over a value -/
def iSeq (K : PySem.W.Frag) (te : TE) : TI := fun σ H R => te σ H fun x H1 => ∃ a, x = .ref a ∧ (((∃ xs, SqL K H1 a xs) ∧ R (Itl K a) H1) ∨ ((∃ xs, SqT K H1 a xs) ∧ R (Itt K a) H1))
theorem pi_seq {X : Cx} {tg l : Expr} {tl : TE} (hl : PE X l tl) : PI X tg l (iSeq X.K tl) := by
  refine ⟨fun pins s σ H R I h => ?_⟩
  refine thn (hl.run pins s σ H _ I h) fun v s1 ⟨x, H1, I1, r1, q1⟩ => ?_
  obtain ⟨a, e, q1⟩ := q1
  subst e
  cases r1
  rcases q1 with ⟨⟨xs, hq⟩, q⟩ | ⟨⟨xs, hq⟩, q⟩
  · obtain ⟨its, rv, p, hz⟩ := I1.list hq
    exact wpAny_pyIter_list p.isList (pi_one (tk := s1.toks) I1 _ (turn_list a _) ⟨_, Heap.get?_push_size _ rfl, rfl, rfl⟩ q)
  · obtain ⟨its, rv, p, hz⟩ := I1.tuple hq
    exact wpAny_pyIter_tuple (show s1.heap.IsTuple a its.toArray from p) (pi_one (tk := s1.toks) I1 _ (turn_tuple a _) ⟨_, Heap.get?_push_size _ rfl, rfl, rfl⟩ q)
def itemsD : D → Option (List D)
  | .tup l => some l
  | .lst l => some l
  | .scr l => some (l.map D.int)
  | _ => none
def yVal (fa : Me D) : Me (List Yd) := fun ρ g => (fa ρ g).bind fun x g => op ((itemsD x).map fun l => l.map Yd.one) g
/-- what a looked-at list is, later on -/
theorem Bv.later {K : PySem.W.Frag} {w : Wd} {v : V} {ds : List D} (b : Bv K w v (.lst ds)) : ∃ a xs, v = .ref a ∧ ∀ w', Grow w w' → Wok w' → SqL K w'.H a xs ∧ RvL K w' xs ds := by
  rcases b with r | ⟨a, xs, l, h1, h2, h3, f, z, r⟩ | ⟨_, _, _, _, _, h2, _⟩
  · cases r with
    | lst h l => exact ⟨_, _, rfl, fun w' g o => ⟨.inl (.inl (o.sub _ _ (g.zz _ _ h))), l.grow g⟩⟩
  · cases h2
    exact ⟨a, xs, h1, fun w' g o => ⟨.inl (.inl (g.keep _ _ h3 f).1), r.grow g⟩⟩
  · cases h2
theorem Rv.laterL {K : PySem.W.Frag} {w : Wd} {v : V} {ds : List D} (b : Rv K w v (.lst ds)) : ∃ a xs, v = .ref a ∧ ∀ w', Zl w w' → Wok w' → SqL K w'.H a xs ∧ RvL K w' xs ds := by
  cases b with
  | lst h l => exact ⟨_, _, rfl, fun w' g o => ⟨.inl (.inl (o.sub _ _ (g.zz _ _ h))), l.mono g⟩⟩
theorem Rv.laterT {K : PySem.W.Frag} {w : Wd} {v : V} {ds : List D} (b : Rv K w v (.tup ds)) : ∃ a xs, v = .ref a ∧ ∀ w', Zl w w' → Wok w' → SqT K w'.H a xs ∧ RvL K w' xs ds := by
  cases b with
  | tup h l => exact ⟨_, _, rfl, fun w' g o => ⟨((h.same g.zz).same o.sub).sq, l.mono g⟩⟩
theorem Rv.laterS {K : PySem.W.Frag} {w : Wd} {v : V} {ns : List Int} (b : Rv K w v (.scr ns)) : ∃ a, v = .ref a ∧ ∀ w', Zl w w' → Wok w' → SqL K w'.H a (ns.map V.int) ∧ RvL K w' (ns.map V.int) (ns.map D.int) := by
  cases b with
  | scr h => exact ⟨_, rfl, fun w' g o => ⟨o.sub.seq (g.zz.seq h), .ints _⟩⟩
theorem Zl.refl (w : Wd) : Zl w w := (Grow.refl w).zl
section
variable {C : Ctx} {pos p apos : Pos} {tg a b c e : Expr} {fa fb fc : Me D} {fs : Me (List D)}
theorem di_val (ha : DE C e fa) : DI C Zl tg e (yVal fa) := by
  obtain ⟨ta, pa, va⟩ := ha
  refine ⟨iSeq C.k.K ta, fun X h => by rw [← h.K]; exact pi_seq (pa X h), ⟨fun w0 w ρ σ Q R p => va.run w0 w ρ σ _ R (Po.bind (lft_I _ _) p fun x v w1 e g1 o1 r h1 => ?_)⟩⟩
  have r : Rv C.k.K w1 v x := r
  cases x with
  | tup l =>
    obtain ⟨a, xs, ev, h⟩ := r.laterT
    exact ⟨a, ev, .inr ⟨⟨xs, (h w1 (.refl _) o1).1⟩, h1 _ w1 (.refl o1) (itt_ok h)⟩⟩
  | lst l =>
    obtain ⟨a, xs, ev, h⟩ := r.laterL
    exact ⟨a, ev, .inl ⟨⟨xs, (h w1 (.refl _) o1).1⟩, h1 _ w1 (.refl o1) (itl_ok h)⟩⟩
  | scr l =>
    obtain ⟨a, ev, h⟩ := r.laterS
    exact ⟨a, ev, .inl ⟨⟨_, (h w1 (.refl _) o1).1⟩, h1 _ w1 (.refl o1) (itl_ok h)⟩⟩
  | _ => exact h1.elim
theorem dig_val (ha : DB C e fa) : DI C Grow tg e (yVal fa) := by
  obtain ⟨ta, pa, va⟩ := ha
  refine ⟨iSeq C.k.K ta, fun X h => by rw [← h.K]; exact pi_seq (pa X h), ⟨fun w0 w ρ σ Q R p => va.run w0 w ρ σ _ R (Po.bind (lft_I _ _) p fun x v w1 e g1 o1 r h1 => ?_)⟩⟩
  have r : Bv C.k.K w1 v x := r
  cases x with
  | tup l =>
    obtain ⟨_, _, _, _, _, r⟩ := r.tup o1
    obtain ⟨a, xs, ev, h⟩ := r.laterT
    exact ⟨a, ev, .inr ⟨⟨xs, (h w1 (.refl _) o1).1⟩, h1 _ w1 (.refl o1) (itt_ok fun w' g => h w' g.zl)⟩⟩
  | lst l =>
    obtain ⟨a, xs, ev, h⟩ := r.later
    exact ⟨a, ev, .inl ⟨⟨xs, (h w1 (.refl _) o1).1⟩, h1 _ w1 (.refl o1) (itl_ok h)⟩⟩
  | scr l =>
    have r : Rv C.k.K w1 v (.scr l) := by
      rcases r with r | ⟨_, _, _, _, h2, _⟩ | ⟨_, _, _, _, _, h2, _⟩
      · exact r
      · cases h2
      · cases h2
    obtain ⟨a, ev, h⟩ := r.laterS
    exact ⟨a, ev, .inl ⟨⟨_, (h w1 (.refl _) o1).1⟩, h1 _ w1 (.refl o1) (itl_ok fun w' g => h w' g.zl)⟩⟩
  | _ => exact h1.elim
/-! ### range -/
def smallI (i : Int) : Bool := decide (i.natAbs < 4611686018427387904)
theorem small_bd {i : Int} (h : smallI i = true) : -(2 ^ 62) ≤ i ∧ i < 2 ^ 62 := by
  have z : i.natAbs < 4611686018427387904 := of_decide_eq_true h
  omega
def yR1 (fs : Me (List D)) : Me (List Yd) := fun ρ g => (fs ρ g).bind fun l g => match l with
  | [.int j] => if smallI j = true then .ok (rgD 0 1 j.toNat) g else .bad
  | _ => .bad
def yR2 (fs : Me (List D)) : Me (List Yd) := fun ρ g => (fs ρ g).bind fun l g => match l with
  | [.int i, .int j] => if (j - i).toNat ≤ lim then .ok (rgD i 1 (j - i).toNat) g else .bad
  | _ => .bad
/-- range(i, j, c), c = -1 or a small step up -/
def stepN (i j c : Int) : Option Nat :=
  if (smallI i && smallI j) = true then (if c = -1 then some (i - j).toNat else if c ≠ 0 ∧ c.natAbs < 1073741824 ∧ Builtin.Range.small i j c = true then some (Builtin.Range.rangeSize i j c).toNat else none) else none
def yR3 (fs : Me (List D)) : Me (List Yd) := fun ρ g => (fs ρ g).bind fun l g => match l with
  | [.int i, .int j, .int c] => op ((stepN i j c).map fun n => rgD i c n) g
  | _ => .bad
theorem di_range1 {S : Wd → Wd → Prop} (hm : C.k.mg "range" = none) (ha : DAB C [a] fs) (hg : glB C.sc "range" = true := by rfl) (hs : ∀ env, starEach [a] env = [(false, eval a env)] := by intro _; rfl) : DI C S tg (.Call (.Name "range" p) [a] [] pos) (yR1 fs) := by
  obtain ⟨t, q, v⟩ := ha
  refine ⟨_, fun X h => pi_range1 (h.gl hg) (by rw [h.mg]; exact hm) (q X h) (hs _), ⟨fun w0 w ρ σ Q R p => v.run w0 w ρ σ _ R (Po.bind (lft_I _ _) p fun l us w1 e g1 o1 r h1 => ?_)⟩⟩
  split at h1
  · rename_i j
    split at h1
    · rename_i z
      obtain ⟨z1, z2⟩ := small_bd z
      obtain ⟨u, eu, b⟩ := BvL.one r
      cases b.int
      exact ⟨j, eu, z1, z2, h1 _ w1 (.refl o1) itr_ok⟩
    · exact h1.elim
  · exact h1.elim
theorem di_range2 {S : Wd → Wd → Prop} (hm : C.k.mg "range" = none) (ha : DAB C [a, b] fs) (hg : glB C.sc "range" = true := by rfl) (hs : ∀ env, starEach [a, b] env = [(false, eval a env), (false, eval b env)] := by intro _; rfl) (hs2 : ∀ env, starEach [b] env = [(false, eval b env)] := by intro _; rfl) : DI C S tg (.Call (.Name "range" p) [a, b] [] pos) (yR2 fs) := by
  obtain ⟨t, q, v⟩ := ha
  refine ⟨_, fun X h => pi_r2 (h.gl hg) (by rw [h.mg]; exact hm) (q X h) (hs _) (hs2 _), ⟨fun w0 w ρ σ Q R p => v.run w0 w ρ σ _ R (Po.bind (lft_I _ _) p fun l us w1 e g1 o1 r h1 => ?_)⟩⟩
  split at h1
  · rename_i i j
    split at h1
    · obtain ⟨u, u2, eu, b1, b2⟩ := BvL.two r
      cases b1.int
      cases b2.int
      exact ⟨i, j, eu, h1 _ w1 (.refl o1) itc_ok⟩
    · exact h1.elim
  · exact h1.elim
theorem BvL.three {K : PySem.W.Frag} {w : Wd} {vs : List V} {d e f : D} (b : BvL K w vs [d, e, f]) : ∃ v u t, vs = [v, u, t] ∧ Bv K w v d ∧ Bv K w u e ∧ Bv K w t f := by
  cases b with
  | cons h t =>
    obtain ⟨u, x, e, k⟩ := BvL.two t
    subst e
    exact ⟨_, u, x, rfl, h, k⟩
theorem di_range3 {S : Wd → Wd → Prop} (hm : C.k.mg "range" = none) (ha : DAB C [a, b, c] fs) (hg : glB C.sc "range" = true := by rfl) (hs : ∀ env, starEach [a, b, c] env = (false, eval a env) :: starEach [b, c] env := by intro _; rfl) (hpl : ∀ env, (backTo pos (starEach [b, c] env)).any (·.1) = false := by intro _; rfl) : DI C S tg (.Call (.Name "range" p) [a, b, c] [] pos) (yR3 fs) := by
  obtain ⟨t, q, v⟩ := ha
  refine ⟨_, fun X h => pi_range3 (h.gl hg) (by rw [h.mg]; exact hm) (q X h) (hs _) (hpl _), ⟨fun w0 w ρ σ Q R p => v.run w0 w ρ σ _ R (Po.bind (lft_I _ _) p fun l us w1 e g1 o1 r h1 => ?_)⟩⟩
  split at h1
  · rename_i i j k
    unfold stepN at h1
    split at h1
    · rename_i z
      rw [Bool.and_eq_true] at z
      obtain ⟨z1, z2⟩ := small_bd z.1
      obtain ⟨z3, z4⟩ := small_bd z.2
      obtain ⟨u, u2, u3, eu, b1, b2, b3⟩ := BvL.three r
      cases b1.int
      cases b2.int
      cases b3.int
      split at h1
      · rename_i hc
        subst hc
        exact ⟨i, j, -1, _, eu, .neg z1 z2 z3 z4, h1 _ w1 (.refl o1) itc_ok⟩
      · split at h1
        · rename_i hc
          exact ⟨i, j, k, _, eu, ⟨hc.1, hc.2.1, hc.2.2, PyProof.Rows.rangeSize_toNat i j k⟩, h1 _ w1 (.refl o1) itc_ok⟩
        · exact h1.elim
    · exact h1.elim
  · exact h1.elim
/-! ### enumerate -/
def iEn (K : PySem.W.Frag) (ta : TA) : TI := fun σ H R => ta σ H fun vs H1 => ∃ a, vs = [.ref a] ∧ (((∃ xs, SqL K H1 a xs) ∧ R (Ite K a) H1) ∨ ((∃ xs, SqT K H1 a xs) ∧ R (ItnT K a) H1))
theorem pi_en {X : Cx} {e : Expr} {ta : TA} {p pos tpos : Pos} {elts : List Expr} {kk : Nat} (hg : Gl X "enumerate") (hm : X.mg "enumerate" = none) (ha : PA X [e] ta) (hs : starEach [e] X.env = [(false, eval e X.env)] := by rfl) :
    PI X (.Tuple elts kk tpos) (.Call (.Name "enumerate" p) [e] [] pos) (iEn X.K ta) := by
  refine ⟨fun pins s σ H R I h => ?_⟩
  refine Call_ (ld_blt I hg hm boot_enumerate (PyProof.Rows.callWith_type1 (thn (ha.run pos pins s σ H _ I h) fun us s1 ⟨vs, H1, I1, r1, q1⟩ => ?_) hs rfl))
  obtain ⟨a, ex, q1⟩ := q1
  subst ex
  obtain ⟨u, eu, rx⟩ := vals1 r1
  subst eu
  cases rx
  have fp : ∀ b, b ∈ [s1.heap.objs.size + 1, s1.heap.objs.size] → FpOk X pins H1 b := fun b hb => by
    have e' : b = s1.heap.objs.size + 1 ∨ b = s1.heap.objs.size := by simpa using hb
    have hle : s1.heap.objs.size ≤ b := by
      rcases e' with z | z
      · rw [z]; exact Nat.le_add_right _ _
      · rw [z]; exact Nat.le_refl _
    exact I1.fpOk hle (I1.hok.fresh hle)
  rcases q1 with ⟨⟨xs, hq⟩, q⟩ | ⟨⟨xs, hq⟩, q⟩
  · obtain ⟨its, rv, p', hz⟩ := I1.list hq
    refine call_enumerate_list p'.isList fun h' he hit hsz hk => wpAny_pyIter_enum he ?_
    have I2 : Inv X pins σ H1 { s1 with heap := h' } := I1.kept (t' := s1.toks) hk
    exact ⟨s1.heap.objs.size + 1, [s1.heap.objs.size + 1, s1.heap.objs.size], _, _, H1, rfl, I2, turn_enum a (s1.heap.objs.size + 1) s1.heap.objs.size, ⟨⟨.none, he⟩, hit, Nat.succ_ne_self _⟩, fp, q⟩
  · obtain ⟨its, rv, p', hz⟩ := I1.tuple hq
    refine call_enum1 (begins_tuple a its.toArray) p' fun h' he hit hsz hk => wpAny_pyIter_enum he ?_
    have I2 : Inv X pins σ H1 { s1 with heap := h' } := I1.kept (t' := s1.toks) hk
    exact ⟨s1.heap.objs.size + 1, [s1.heap.objs.size + 1, s1.heap.objs.size], _, _, H1, rfl, I2, turn_enumT a (s1.heap.objs.size + 1) s1.heap.objs.size, ⟨⟨.none, he⟩, ⟨_, hit, rfl, rfl⟩, Nat.succ_ne_self _⟩, fp, q⟩
def yEn (fs : Me (List D)) : Me (List Yd) := fun ρ g => (fs ρ g).bind fun l g => match l with
  | [x] => op ((itemsD x).map (enD 0)) g
  | _ => .bad
theorem di_enum {elts : List Expr} {kk : Nat} {tpos : Pos} (hm : C.k.mg "enumerate" = none) (ha : DA C [a] fs) (hg : glB C.sc "enumerate" = true := by rfl) (hs : ∀ env, starEach [a] env = [(false, eval a env)] := by intro _; rfl) : DI C Zl (.Tuple elts kk tpos) (.Call (.Name "enumerate" p) [a] [] pos) (yEn fs) := by
  obtain ⟨t, q, v⟩ := ha
  refine ⟨iEn C.k.K t, fun X h => by rw [← h.K]; exact pi_en (h.gl hg) (by rw [h.mg]; exact hm) (q X h) (hs _), ⟨fun w0 w ρ σ Q R p => v.run w0 w ρ σ _ R (Po.bind (lft_I _ _) p fun l us w1 e g1 o1 r h1 => ?_)⟩⟩
  have r0 : RvL C.k.K w1 us l := r
  clear r
  rcases l with _ | ⟨x, _ | ⟨x2, l2⟩⟩
  · exact h1.elim
  · cases r0 with
    | cons r1 rr =>
      cases rr
      have r : Rv C.k.K w1 _ x := r1
      clear r1
      cases x with
      | tup l =>
        obtain ⟨a, xs, ev, h⟩ := r.laterT
        exact ⟨a, by rw [ev], .inr ⟨⟨xs, (h w1 (.refl _) o1).1⟩, h1 _ w1 (.refl o1) (itnt_ok h)⟩⟩
      | lst l =>
        obtain ⟨a, xs, ev, h⟩ := r.laterL
        exact ⟨a, by rw [ev], .inl ⟨⟨xs, (h w1 (.refl _) o1).1⟩, h1 _ w1 (.refl o1) (ite_ok h)⟩⟩
      | scr l =>
        obtain ⟨a, ev, h⟩ := r.laterS
        exact ⟨a, by rw [ev], .inl ⟨⟨_, (h w1 (.refl _) o1).1⟩, h1 _ w1 (.refl o1) (ite_ok h)⟩⟩
      | _ => exact h1.elim
  · exact h1.elim
theorem dig_enum {elts : List Expr} {kk : Nat} {tpos : Pos} (hm : C.k.mg "enumerate" = none) (ha : DAB C [a] fs) (hg : glB C.sc "enumerate" = true := by rfl) (hs : ∀ env, starEach [a] env = [(false, eval a env)] := by intro _; rfl) : DI C Grow (.Tuple elts kk tpos) (.Call (.Name "enumerate" p) [a] [] pos) (yEn fs) := by
  obtain ⟨t, q, v⟩ := ha
  refine ⟨iEn C.k.K t, fun X h => by rw [← h.K]; exact pi_en (h.gl hg) (by rw [h.mg]; exact hm) (q X h) (hs _), ⟨fun w0 w ρ σ Q R p => v.run w0 w ρ σ _ R (Po.bind (lft_I _ _) p fun l us w1 e g1 o1 r h1 => ?_)⟩⟩
  have r0 : BvL C.k.K w1 us l := r
  clear r
  rcases l with _ | ⟨x, _ | ⟨x2, l2⟩⟩
  · exact h1.elim
  · obtain ⟨u, eu, r1⟩ := r0.one
    have r : Bv C.k.K w1 u x := r1
    clear r1
    subst eu
    cases x with
    | tup l =>
      obtain ⟨_, _, _, _, _, r⟩ := r.tup o1
      obtain ⟨a, xs, ev, h⟩ := r.laterT
      exact ⟨a, by rw [ev], .inr ⟨⟨xs, (h w1 (.refl _) o1).1⟩, h1 _ w1 (.refl o1) (itnt_ok fun w' g => h w' g.zl)⟩⟩
    | lst l =>
      obtain ⟨a, xs, ev, h⟩ := r.later
      exact ⟨a, by rw [ev], .inl ⟨⟨xs, (h w1 (.refl _) o1).1⟩, h1 _ w1 (.refl o1) (ite_ok h)⟩⟩
    | scr l =>
      have r : Rv C.k.K w1 u (.scr l) := by
        rcases r with r | ⟨_, _, _, _, h2, _⟩ | ⟨_, _, _, _, _, h2, _⟩
        · exact r
        · cases h2
        · cases h2
      obtain ⟨a, ev, h⟩ := r.laterS
      exact ⟨a, by rw [ev], .inl ⟨⟨_, (h w1 (.refl _) o1).1⟩, h1 _ w1 (.refl o1) (ite_ok fun w' g => h w' g.zl)⟩⟩
    | _ => exact h1.elim
  · exact h1.elim
end
end Dl
set_option Elab.async false
set_option linter.all false
set_option maxRecDepth 100000
set_option maxHeartbeats 1000000
namespace Dl
open PySem PySem.Spec PyProof.Rows L2
/-! ### slots set, slots forgotten -/
def kill : List Nat → Env → Env
  | [], ρ => ρ
  | v :: vs, ρ => (kill vs ρ).set v .no
section
variable {K : PySem.W.Frag} {w0 w : Wd} {ρ : Env} {σ : Sg}
theorem Rel.setIm (R : Rel K w0 w ρ σ) (i : Nat) {v : V} {d : D} (r : Rv K w v d) : Rel K w0 w (ρ.set i (.im d)) (σ.set i (some v)) := by
  refine ⟨R.ok, R.gr, by rw [List.length_set, List.length_set]; exact R.ln, fun j s h => ?_, fun j k s t a ne h1 h2 o1 o2 e1 e2 => ?_⟩
  · by_cases hj : i = j
    · subst hj
      by_cases hl : i < ρ.length
      · rw [List.getElem?_set_self hl] at h
        cases h
        rw [List.getElem?_set_self (by rw [← R.ln]; exact hl)]
        exact .im r
      · rw [List.getElem?_eq_none (by rw [List.length_set]; omega)] at h
        cases h
    · rw [List.getElem?_set_ne hj] at h
      rw [List.getElem?_set_ne hj]
      exact R.sl j s h
  · have nj : i ≠ j := fun z => by
      subst z
      by_cases hl : i < ρ.length
      · rw [List.getElem?_set_self hl] at h1; cases h1; cases o1
      · rw [List.getElem?_eq_none (by rw [List.length_set]; omega)] at h1; cases h1
    have nk : i ≠ k := fun z => by
      subst z
      by_cases hl : i < ρ.length
      · rw [List.getElem?_set_self hl] at h2; cases h2; cases o2
      · rw [List.getElem?_eq_none (by rw [List.length_set]; omega)] at h2; cases h2
    rw [List.getElem?_set_ne nj] at h1 e1
    rw [List.getElem?_set_ne nk] at h2 e2
    exact R.inj j k s t a ne h1 h2 o1 o2 e1 e2
theorem Rel.setNo (R : Rel K w0 w ρ σ) (i : Nat) : Rel K w0 w (ρ.set i .no) σ := by
  refine ⟨R.ok, R.gr, by rw [List.length_set]; exact R.ln, fun j s h => ?_, fun j k s t a ne h1 h2 o1 o2 e1 e2 => ?_⟩
  · by_cases hj : i = j
    · subst hj
      by_cases hl : i < ρ.length
      · rw [List.getElem?_set_self hl] at h
        cases h
        exact .no
      · rw [List.getElem?_eq_none (by rw [List.length_set]; omega)] at h
        cases h
    · rw [List.getElem?_set_ne hj] at h
      exact R.sl j s h
  · have nj : i ≠ j := fun z => by
      subst z
      by_cases hl : i < ρ.length
      · rw [List.getElem?_set_self hl] at h1; cases h1; cases o1
      · rw [List.getElem?_eq_none (by rw [List.length_set]; omega)] at h1; cases h1
    have nk : i ≠ k := fun z => by
      subst z
      by_cases hl : i < ρ.length
      · rw [List.getElem?_set_self hl] at h2; cases h2; cases o2
      · rw [List.getElem?_eq_none (by rw [List.length_set]; omega)] at h2; cases h2
    rw [List.getElem?_set_ne nj] at h1
    rw [List.getElem?_set_ne nk] at h2
    exact R.inj j k s t a ne h1 h2 o1 o2 e1 e2
theorem Rel.kill (R : Rel K w0 w ρ σ) : ∀ vs : List Nat, Rel K w0 w (kill vs ρ) σ
  | [] => R
  | v :: vs => (Rel.kill R vs).setNo v
/-- the slots that are no more of the env need not be there -/
theorem kill_at : ∀ {vs : List Nat} {ρ : Env} {i : Nat} {s : Sl}, (Dl.kill vs ρ)[i]? = some s → (i ∈ vs ∧ s = .no) ∨ (i ∉ vs ∧ ρ[i]? = some s)
  | [], ρ, i, s, h => .inr ⟨by simp, h⟩
  | v :: vs, ρ, i, s, h => by
    unfold Dl.kill at h
    by_cases hv : v = i
    · subst hv
      by_cases hl : v < (Dl.kill vs ρ).length
      · rw [List.getElem?_set_self hl] at h
        cases h
        exact .inl ⟨by simp, rfl⟩
      · rw [List.getElem?_eq_none (by rw [List.length_set]; omega)] at h
        cases h
    · rw [List.getElem?_set_ne hv] at h
      rcases kill_at h with ⟨h1, h2⟩ | ⟨h1, h2⟩
      · exact .inl ⟨List.mem_cons_of_mem _ h1, h2⟩
      · exact .inr ⟨by simp only [List.mem_cons, not_or]; exact ⟨fun e => hv e.symm, h1⟩, h2⟩
theorem Rel.wipe (R : Rel K w0 w ρ σ) (vs : List Nat) : Rel K w0 w (Dl.kill vs ρ) (wipe σ vs) := by
  refine ⟨R.ok, R.gr, by rw [(R.kill vs).ln, wipe_length], fun j s h => ?_, fun j k s t a ne h1 h2 o1 o2 e1 e2 => ?_⟩
  · rcases kill_at h with ⟨h1, h2⟩ | ⟨h1, h2⟩
    · subst h2; exact .no
    · rw [wipe_out h1]; exact R.sl j s h2
  · rcases kill_at h1 with ⟨_, z⟩ | ⟨n1, k1⟩
    · subst z; cases o1
    rcases kill_at h2 with ⟨_, z⟩ | ⟨n2, k2⟩
    · subst z; cases o2
    rw [wipe_out n1] at e1
    rw [wipe_out n2] at e2
    exact R.inj j k s t a ne k1 k2 o1 o2 e1 e2
end
/-! ### targets -/
/-- a value given to a target: only the slots vs change -/
def DG (C : Ctx) (tg : Expr) (b : D → Env → Option Env) (vs : List Nat) : Prop := ∃ g : TG, (∀ X, CtxOk C X → PG X tg g) ∧
  ∀ w0 w ρ σ d v ρ' Q, Rel C.k.K w0 w ρ σ → Rv C.k.K w v d → b d ρ = some ρ' → (∀ σ', Rel C.k.K w0 w ρ' σ' → wipe σ' vs = wipe σ vs → Q σ' w.H) → g v σ w.H Q
def DGs (C : Ctx) (tgs : List Expr) (b : List D → Env → Option Env) (vs : List Nat) : Prop := ∃ g : TGs, (∀ X, CtxOk C X → PGs X tgs g) ∧
  ∀ w0 w ρ σ ds us ρ' Q, Rel C.k.K w0 w ρ σ → RvL C.k.K w us ds → b ds ρ = some ρ' → (∀ σ', Rel C.k.K w0 w ρ' σ' → wipe σ' vs = wipe σ vs → Q σ' w.H) → g us σ w.H Q
/-- what a turn gives, given to a target -/
def DY (C : Ctx) (tg : Expr) (b : Yd → Env → Option Env) (vs : List Nat) : Prop := ∃ g : TG, (∀ X, CtxOk C X → PG X tg g) ∧
  ∀ w0 w ρ σ y x H' ρ' Q, Rel C.k.K w0 w ρ σ → YdOk C.k.K w y x H' → b y ρ = some ρ' → (∀ w' σ', To w w' w.g → Rel C.k.K w0 w' ρ' σ' → wipe σ' vs = wipe σ vs → Q σ' w'.H) → g x σ H' Q
def locB (C : Ctx) (x : Str) : Bool := match C.sc.names.lookup x with
  | some .local => true
  | some .cell => C.fn x
  | _ => false
theorem loc_of {C : Ctx} {x : Str} (h : locB C x = true) : Loc C.sc x ∧ (C.fn x = true ∨ C.sc.names.lookup x = some .local) := by
  unfold locB at h
  split at h
  · rename_i e; exact ⟨.inl e, .inr e⟩
  · rename_i e; exact ⟨.inr e, .inl h⟩
  · cases h
theorem wipe_set {σ : Sg} {i : Nat} {x : Option V} : ∀ {vs : List Nat}, i ∈ vs → wipe (σ.set i x) vs = wipe σ vs
  | v :: vs, h => by
    unfold wipe
    by_cases e : i ∈ vs
    · rw [wipe_set e]
    · have hv : i = v := by
        rcases List.mem_cons.mp h with z | z
        · exact z
        · exact absurd z e
      subst hv
      have : ∀ us : List Nat, i ∉ us → wipe (σ.set i x) us = (wipe σ us).set i x := by
        intro us
        induction us with
        | nil => intro _; rfl
        | cons u us ih =>
          intro hu
          simp only [List.mem_cons, not_or] at hu
          unfold wipe
          rw [ih hu.2, List.set_comm _ _ hu.1]
      rw [this vs e, List.set_set]
section
variable {C : Ctx} {pos p : Pos} {tg e : Expr} {es : List Expr}
def bName (i : Nat) : D → Env → Option Env := fun d ρ => some (ρ.set i (.im d))
theorem dg_name (i : Nat) {x : Str} (hN : C.N[i]? = some x := by rfl) (hx : locB C x = true := by rfl) : DG C (.Name x p) (bName i) [i] := by
  obtain ⟨h1, h2⟩ := loc_of hx
  refine ⟨gName i, fun X h => pg_name h.nd (by rw [h.N]; exact hN) (by rw [h.sc]; exact h1) (by rw [h.fn, h.sc]; exact h2), fun w0 w ρ σ d v ρ' Q R r b q => ?_⟩
  cases b
  exact q _ (R.setIm i r) (wipe_set (by simp))
def bNil : List D → Env → Option Env
  | [], ρ => some ρ
  | _, _ => none
def bCons (b : D → Env → Option Env) (c : List D → Env → Option Env) : List D → Env → Option Env
  | d :: r, ρ => match b d ρ with
    | some ρ' => c r ρ'
    | none => none
  | [], _ => none
theorem dgs_nil : DGs C [] bNil [] := by
  refine ⟨gNil, fun X h => pgs_nil, fun w0 w ρ σ ds us ρ' Q R r b q => ?_⟩
  cases r with
  | nil => cases b; exact ⟨rfl, q _ R rfl⟩
  | cons _ _ => cases b
theorem wipe_app {σ : Sg} : ∀ {vs us : List Nat}, wipe σ (vs ++ us) = wipe (wipe σ us) vs
  | [], us => rfl
  | v :: vs, us => by
    show (wipe σ (vs ++ us)).set v none = (wipe (wipe σ us) vs).set v none
    rw [wipe_app]
theorem wipe_swap {σ : Sg} (us : List Nat) : ∀ vs : List Nat, wipe (wipe σ us) vs = wipe (wipe σ vs) us
  | [] => rfl
  | v :: vs => by
    show (wipe (wipe σ us) vs).set v none = wipe ((wipe σ vs).set v none) us
    rw [wipe_swap us vs]
    have : ∀ (τ : Sg) (us : List Nat), (wipe τ us).set v none = wipe (τ.set v none) us := by
      intro τ us
      induction us with
      | nil => rfl
      | cons u us ih =>
        unfold wipe
        rw [← ih]
        by_cases hu : u = v
        · subst hu; rfl
        · rw [List.set_comm _ _ hu]
    exact this _ us
theorem wipe_sub {σ τ : Sg} {vs us : List Nat} (h : wipe σ vs = wipe τ vs) : wipe σ (vs ++ us) = wipe τ (vs ++ us) := by
  rw [wipe_app, wipe_swap us vs, h, wipe_app, wipe_swap us vs]
theorem wipe_sub' {σ τ : Sg} {vs us : List Nat} (h : wipe σ us = wipe τ us) : wipe σ (vs ++ us) = wipe τ (vs ++ us) := by
  rw [wipe_app, h, wipe_app]
theorem dgs_cons {b : D → Env → Option Env} {c : List D → Env → Option Env} {vs us : List Nat} (h1 : DG C e b vs) (h2 : DGs C es c us) (hs : ∀ env, (assignEach (e :: es) env).map (·.2) = assign e env :: (assignEach es env).map (·.2) := by intro _; rfl) : DGs C (e :: es) (bCons b c) (vs ++ us) := by
  obtain ⟨t, p1, q1⟩ := h1
  obtain ⟨u, p2, q2⟩ := h2
  refine ⟨gCons t u, fun X h => pgs_cons (p1 X h) (p2 X h) (hs _), fun w0 w ρ σ ds xs ρ' Q R r b q => ?_⟩
  cases r with
  | nil => cases b
  | cons r rr =>
    unfold bCons at b
    dsimp only at b
    split at b
    · rename_i ρ1 e1
      exact ⟨_, _, rfl, q1 w0 w ρ σ _ _ ρ1 _ R r e1 fun σ1 R1 k1 => q2 w0 w ρ1 σ1 _ _ ρ' _ R1 rr b fun σ2 R2 k2 => q σ2 R2 ((wipe_sub' k2).trans (wipe_sub k1))⟩
    · cases b
/-- a tuple of targets, a tuple given -/
def bTup (n : Nat) (c : List D → Env → Option Env) : D → Env → Option Env
  | .tup l, ρ => if l.length = n then c l ρ else none
  | _, _ => none
theorem dg_tup {k n : Nat} {c : List D → Env → Option Env} {us : List Nat} (h : DGs C es c us)
    (hn : ∀ env, (assignEach es env).length = n := by intro _; rfl) (hst : ∀ env, (assignEach es env).findIdx? (·.1) = none := by intro _; rfl) : DG C (.Tuple es k pos) (bTup n c) us := by
  obtain ⟨u, p2, q2⟩ := h
  refine ⟨gTup C.k.K n u, fun X h => by rw [← h.K]; exact pg_tup h.calm (p2 X h) (hn _) (hst _), fun w0 w ρ σ d v ρ' Q R r b q => ?_⟩
  cases d with
  | tup l =>
    unfold bTup at b
    dsimp only at b
    split at b
    · rename_i e
      obtain ⟨a, xs, ev, h⟩ := r.laterT
      obtain ⟨s, rl⟩ := h w (.refl _) R.ok
      exact ⟨a, xs, ev, s, by rw [rl.length]; exact e, q2 w0 w ρ σ _ _ ρ' _ R rl b q⟩
    · cases b
  | _ => cases b
def bOne (b : D → Env → Option Env) : Yd → Env → Option Env
  | .one d, ρ => b d ρ
  | .many _, _ => none
theorem dy_one {b : D → Env → Option Env} {vs : List Nat} (h : DG C tg b vs) : DY C tg (bOne b) vs := by
  obtain ⟨t, p, q⟩ := h
  refine ⟨t, p, fun w0 w ρ σ y x H' ρ' Q R o b k => ?_⟩
  cases y with
  | one d =>
    obtain ⟨e, r⟩ := o
    subst e
    exact q w0 w ρ σ d x ρ' Q R r b fun σ' R' z => k w σ' (.refl R.ok) R' z
  | many l => cases b
def bMany (n : Nat) (c : List D → Env → Option Env) : Yd → Env → Option Env
  | .many l, ρ => if l.length = n then c l ρ else none
  | .one _, _ => none
theorem dy_many {k n : Nat} {c : List D → Env → Option Env} {us : List Nat} (h : DGs C es c us)
    (hn : ∀ env, (assignEach es env).length = n := by intro _; rfl) (hst : ∀ env, (assignEach es env).findIdx? (·.1) = none := by intro _; rfl) : DY C (.Tuple es k pos) (bMany n c) us := by
  obtain ⟨u, p2, q2⟩ := h
  refine ⟨gTup C.k.K n u, fun X h => by rw [← h.K]; exact pg_tup h.calm (p2 X h) (hn _) (hst _), fun w0 w ρ σ y x H' ρ' Q R o b k => ?_⟩
  cases y with
  | one d => cases b
  | many l =>
    obtain ⟨T, xs, e1, hT, e2, r⟩ := o
    subst e1 e2
    unfold bMany at b
    dsimp only at b
    split at b
    · rename_i e
      have t : To w { w with H := upd w.H T (.tup xs) } w.g := .new R.ok hT
      refine ⟨T, xs, rfl, .inl (.inl upd_same), by rw [r.length]; exact e, ?_⟩
      exact q2 w0 { w with H := upd w.H T (.tup xs) } ρ σ _ _ ρ' _ (R.step t.gr t.ok) (r.grow t.gr) b fun σ' R' z => k _ σ' t R' z
    · cases b
end
end Dl
set_option Elab.async false
set_option linter.all false
set_option maxRecDepth 100000
set_option maxHeartbeats 1000000
namespace Dl
open PySem PySem.Spec PyProof.Rows L2
/-! ### an object of the def's own is written -/
theorem Wok.put {w : Wd} (o : Wok w) {a : Addr} {u : HO} (z : w.Z a = none) (f : Off w a) : Wok { w with H := upd w.H a u } := by
  refine ⟨fun b x e => ?_, fun s hs => ?_⟩
  · show upd w.H a u b = some x
    have ne : b ≠ a := fun q => by
      subst q
      have e : w.Z b = some x := e
      rw [z] at e; cases e
    rw [upd_ne ne]
    exact o.sub b x e
  · have d := o.drw s hs
    rcases f with f | ⟨f1, f3⟩
    · have hs : w.g = some s := hs
      rw [f] at hs; cases hs
    · exact ⟨by show upd w.H a u w.m = _; rw [upd_ne (Ne.symm f1)]; exact d.hm, d.zc, by show upd w.H a u w.r = _; rw [upd_ne (Ne.symm f3)]; exact d.hr, d.zm, d.zr⟩
theorem Grow.put {w0 w : Wd} (e : Grow w0 w) {a : Addr} {u : HO} (n : w0.H a = none) : Grow w0 { w with H := upd w.H a u } where
  zz := e.zz
  keep := fun b o h f => by
    obtain ⟨h1, z1⟩ := e.keep b o h f
    exact ⟨by show upd w.H a u b = _; rw [upd_ne (ne_of_none h n)]; exact h1, z1⟩
  hd := e.hd
  nw := e.nw
/-! ### comprehensions -/
def Re.nox {α : Type} : Re α → Re α
  | .ok a g => .ok a g
  | _ => .bad
theorem Re.bind_assoc {α β γ : Type} (x : Re α) (f : α → G → Re β) (h : β → G → Re γ) : (x.bind f).bind h = x.bind fun a g => (f a g).bind h := by cases x <;> rfl
abbrev Ctx.blk (C : Ctx) (scope : Scope) : Ctx := { C with sc := relS scope C.sc, W := fun _ _ _ _ => False, fn := fun x => scope.names.lookup x == some .cell, top := false }
theorem CtxOk.blk {C : Ctx} {X : Cx} (h : CtxOk C X) (scope : Scope) (s : Shared) (H : Hp) (K : Addr) (cl : List (Str × Addr)) (fp : List Addr) : CtxOk (C.blk scope) (X.blk s H scope (compEnvC scope cl K X.env) fp) where
  P := h.P
  w := h.w
  K := h.K
  mg := h.mg
  base := h.base
  N := h.N
  nd := h.nd
  sc := by show relS scope X.env.scope = relS scope C.sc; rw [h.sc]
  calm := h.calm
  room := h.room
  gd := h.gd
  tk := fun u s' ⟨_, _, _, _, _, _, _, _, _, _, _, _, _, _, _, _, z⟩ => z
  pa := PassesOwn.never
  fn := rfl
  top := fun z => by cases z
theorem Po.nox {α β γ δ : Type} {k : Kt} {W : WX} {RA : Wd → Wd → β → α → Prop} {RB : Wd → Wd → δ → γ → Prop} {w1 w : Wd} {σ σ' : Sg} {Q : δ → Hp → Prop} {Q' : β → Hp → Prop} {x : Re α} {f : α → G → Re γ}
    (h : Po k W RB w1 σ Q (x.nox.bind f)) (n : ∀ a v w', x = .ok a w'.g → Grow w w' → Wok w' → RA w w' v a → Po k W RB w1 σ Q (f a w'.g) → Q' v w'.H) : Po k (fun _ _ _ _ => False) RA w σ' Q' x := by
  cases x with
  | ok a g => exact fun v w2 t r => n a v w2 (by rw [t.g]) t.gr t.ok r (by rw [t.g]; exact h)
  | ex c fs ρ g => exact h.elim
  | bad => exact h
def DTs (C : Ctx) (ifs : List Expr) (f : Me Bool) : Prop := ∃ t : TT, (∀ X, CtxOk C X → PTs X ifs t) ∧ Ev C rT t f
def tmYes : Me Bool := fun _ g => .ok true g
theorem dts_nil {C : Ctx} : DTs C [] tmYes := ⟨tYes, fun X h => pts_nil, ⟨fun w0 w ρ σ Q R h => h true w (.refl R.ok) rfl⟩⟩
theorem dts_one {C : Ctx} {c : Expr} {f : Me Bool} (h : DT C c f) : DTs C [c] f := by
  obtain ⟨t, p, v⟩ := h
  exact ⟨t, fun X q => pts_one (p X q), v⟩
def compF (b : Yd → Env → Option Env) (tm : Me Bool) (el : Me D) (ρ : Env) : List Yd → G → Re (List D)
  | [], g => .ok [] g
  | y :: r, g => match b y ρ with
    | none => .bad
    | some ρ1 => (tm ρ1 g).nox.bind fun k g => if k = true then (el ρ1 g).nox.bind fun d g => (compF b tm el ρ r g).bind fun l g => .ok (d :: l) g else compF b tm el ρ r g
def eComp (fi : Me (List Yd)) (vs : List Nat) (b : Yd → Env → Option Env) (tm : Me Bool) (el : Me D) : Me (List D) := fun ρ g => (fi ρ g).bind fun ys g => if ys.length ≤ lim then compF b tm el (kill vs ρ) ys g else .bad
def appF (acc : List D) (x : Re (List D)) : Re (List D) := x.bind fun l g => .ok (acc ++ l) g
theorem appF_nil (x : Re (List D)) : appF [] x = x := by cases x <;> rfl
theorem wipe_wipe (σ : Sg) (vs : List Nat) : wipe (wipe σ vs) vs = wipe σ vs := by
  induction vs with
  | nil => rfl
  | cons v vs ih =>
    have e : wipe σ (v :: vs) = (wipe σ vs).set v none := rfl
    rw [e]
    show (wipe ((wipe σ vs).set v none) vs).set v none = (wipe σ vs).set v none
    have : ∀ (τ : Sg) (us : List Nat), (wipe (τ.set v none) us).set v none = (wipe τ us).set v none := by
      intro τ us
      induction us with
      | nil => show (τ.set v none).set v none = τ.set v none; rw [List.set_set]
      | cons u us ihu =>
        show ((wipe (τ.set v none) us).set u none).set v none = ((wipe τ us).set u none).set v none
        by_cases hu : u = v
        · subst hu; rw [List.set_set, List.set_set]; exact ihu
        · rw [List.set_comm _ _ hu, ihu, List.set_comm _ _ (Ne.symm hu)]
    rw [this, ih]
theorem ev_comp {C : Ctx} {scope : Scope} {wi : TI} {g : TG} {tt : TT} {te : TE} {vs : List Nat} {fi : Me (List Yd)} {b : Yd → Env → Option Env} {tm : Me Bool} {el : Me D}
    (hi : Ev C (rI Grow C.k) wi fi)
    (hg : ∀ w0 w ρ σ y x H' ρ' Q, Rel C.k.K w0 w ρ σ → YdOk C.k.K w y x H' → b y ρ = some ρ' → (∀ w' σ', To w w' w.g → Rel C.k.K w0 w' ρ' σ' → wipe σ' vs = wipe σ vs → Q σ' w'.H) → g x σ H' Q)
    (ht : Ev (C.blk scope) rT tt tm) (he : Ev (C.blk scope) (rD C.k) te el) : Ev C (rF C.k) (tLc wi g tt te vs) (eComp fi vs b tm el) := by
  refine ⟨fun w0 w ρ σ Q R h => hi.run w0 w ρ σ _ R (Po.bind (lft_F _) h fun ys J w1 e g1 o1 it h1 => ?_)⟩
  have it : ItOk Grow C.k.K w1 J ys := it
  split at h1
  case isFalse => exact h1.elim
  rename_i hz
  intro D hD
  let Inv := fun (i : Nat) (H : Hp) => ∃ (w2 : Wd) (acc : List Dl.D) (us : List V), H = w2.H ∧ Grow w1 w2 ∧ Wok w2 ∧ New w1 w2 D ∧ w2.H D = some (.lst us) ∧ RvL C.k.K w2 us acc ∧ acc.length ≤ i ∧ Po C.k C.W (rF C.k) w1 σ Q (appF acc (compF b tm el (kill vs ρ) (ys.drop i) w2.g))
  refine ⟨fun i m H => m = ys.length - i ∧ i ≤ ys.length ∧ Inv i H, ⟨ys.length, by simp, Nat.zero_le _, { w1 with H := upd w1.H D (.lst []) }, [], [], rfl, .new hD, .new o1 hD, .of o1 hD, upd_same, .nil, Nat.zero_le _, by rw [appF_nil, List.drop_zero]; exact h1⟩, ?_⟩
  rintro i m H ⟨rfl, hi2, w2, acc, us, rfl, g2, o2, n2, hD2, r2, l2, p2⟩
  by_cases hlt : i < ys.length
  · refine .inr ⟨it.go w2 g2 o2 i hlt, Inv (i + 1), fun H' q => ⟨ys.length - (i + 1), by omega, rfl, hlt, q⟩, fun x H' hy => ?_⟩
    have ey : ys[i]? = some ys[i] := List.getElem?_eq_getElem hlt
    have yo := it.yld w2 g2 o2 i _ x H' ey hy
    rw [List.drop_eq_getElem_cons hlt] at p2
    unfold compF at p2
    cases hb : b ys[i] (kill vs ρ) with
    | none => rw [hb] at p2; exact p2.elim
    | some ρ1 =>
      rw [hb] at p2
      dsimp only at p2
      have R2 : Rel C.k.K w0 w2 (kill vs ρ) (wipe σ vs) := ((R.step g1 o1).step g2 o2).wipe vs
      refine hg w0 w2 _ _ ys[i] x H' ρ1 _ R2 yo hb fun w3 σ3 t3 R3 wi3 => ⟨by rw [wi3, wipe_wipe], ?_⟩
      have g3 := g2.trans t3.gr
      obtain ⟨n3, hD3⟩ := n2.step hD2 t3.gr
      rw [← t3.g] at p2
      unfold appF at p2
      rw [Re.bind_assoc] at p2
      refine ht.run w0 w3 ρ1 σ3 _ R3 (Po.nox p2 fun kk kv w4 e4 g4 o4 r4 p4 => ?_)
      cases r4
      obtain ⟨n4, hD4⟩ := n3.step hD3 g4
      have g14 := g3.trans g4
      have r24 : RvL C.k.K w4 us acc := (r2.grow t3.gr).grow g4
      cases kk with
      | false =>
        rw [if_neg Bool.false_ne_true] at p4 ⊢
        exact ⟨w4, acc, us, rfl, g14, o4, n4, hD4, r24, Nat.le_succ_of_le l2, p4⟩
      | true =>
        rw [if_pos rfl] at p4 ⊢
        rw [Re.bind_assoc] at p4
        refine he.run w0 w4 ρ1 σ3 _ (R3.step g4 o4) (Po.nox p4 fun d v w5 e5 g5 o5 r5 p5 => ?_)
        obtain ⟨n5, hD5⟩ := n4.step hD4 g5
        have r25 : RvL C.k.K w5 us acc := r24.grow g5
        have r5 : Rv C.k.K w5 v d := r5
        refine ⟨us, hD5, ?_, { w5 with H := upd w5.H D (.lst (us ++ [v])) }, acc ++ [d], us ++ [v], rfl, (g14.trans g5).put hD, o5.put n5.z n5.off, ⟨n5.h, n5.o0, n5.z, n5.off⟩, upd_same, (r25.append (.cons r5 .nil)).mono .of_H, by rw [List.length_append]; exact Nat.succ_le_succ l2, ?_⟩
        · rw [r25.length]
          exact Nat.lt_of_le_of_lt l2 (Nat.lt_of_lt_of_le hlt (Nat.le_trans hz lim_le))
        · rw [Re.bind_assoc] at p5
          have e : appF (acc ++ [d]) (compF b tm el (kill vs ρ) (ys.drop (i + 1)) w5.g) = (compF b tm el (kill vs ρ) (ys.drop (i + 1)) w5.g).bind fun a g => (Re.ok (d :: a) g).bind fun l g => .ok (acc ++ l) g := by
            unfold appF
            congr 1
            funext a g
            show Re.ok (acc ++ [d] ++ a) g = Re.ok (acc ++ (d :: a)) g
            rw [List.append_assoc]; rfl
          rw [e]
          exact p5
  · have ei : i = ys.length := by omega
    subst ei
    rw [List.drop_length] at p2
    have p2 : Po C.k C.W (rF C.k) w1 σ Q (.ok (acc ++ []) w2.g) := p2
    rw [List.append_nil] at p2
    exact .inl ⟨it.stop w2 g2 o2, p2 _ w2 ⟨g2, o2, rfl⟩ ⟨D, us, rfl, n2, hD2, r2⟩⟩
section
variable {C : Ctx} {pos : Pos} {elt tg iter : Expr} {ifs : List Expr} {scope : Scope} {fi : Me (List Yd)} {b : Yd → Env → Option Env} {tm : Me Bool} {el : Me D} {vs : List Nat}
theorem df_comp (own : List (Str × Nat)) (hi : DI C Grow tg iter fi) (hg : DY (C.blk scope) tg b vs) (ht : DTs (C.blk scope) ifs tm) (he : DE (C.blk scope) elt el)
    (hv : vs = own.map (·.2) := by rfl) (ok : blkC C.N C.sc scope own = true := by first | decide +kernel | (dsimp only [Ctx.blk]; decide +kernel)) (hs : ∀ env x, foldedSetIterable iter env x = pure x := by intro _ _; rfl) : DF C (.ListComp elt [⟨tg, iter, ifs, 0⟩] scope pos) (eComp fi vs b tm el) := by
  obtain ⟨wi, pi, vi⟩ := hi
  obtain ⟨g, pg, vg⟩ := hg
  obtain ⟨tt, pt, vt⟩ := ht
  obtain ⟨te, pe, ve⟩ := he
  subst hv
  exact ⟨_, fun X h => pe_lc h.calm h.nd (pi X h) (by rw [h.N, h.sc]; exact blkOk_by ok) (fun s H K cl fp => pg _ (h.blk scope s H K cl fp)) (fun s H K cl fp => pt _ (h.blk scope s H K cl fp)) (fun s H K cl fp => pe _ (h.blk scope s H K cl fp)) (hs _), ev_comp vi vg vt ve⟩
end
end Dl
set_option Elab.async false
set_option linter.all false
set_option maxRecDepth 100000
set_option maxHeartbeats 1000000
namespace Dl
open PySem PySem.Spec PyProof.Rows L2
/-! ### what a statement comes to -/
inductive Out where
  | nx (ρ : Env)
  | bk (ρ : Env)
  | ct (ρ : Env)
  | rt (d : D)
abbrev Ms := Env → G → Re Out
def PoS (C : Ctx) (w0 w : Wd) (E : Ends) : Re Out → Prop
  | .ok (.nx ρ) g' => ∀ w' σ', Zl w w' → w'.g = g' → Rel C.k.K w0 w' ρ σ' → E.nx σ' w'.H
  | .ok (.bk ρ) g' => ∀ w' σ', Zl w w' → w'.g = g' → Rel C.k.K w0 w' ρ σ' → E.bk σ' w'.H
  | .ok (.ct ρ) g' => ∀ w' σ', Zl w w' → w'.g = g' → Rel C.k.K w0 w' ρ σ' → E.ct σ' w'.H
  | .ok (.rt d) g' => ∀ v w', Grow w0 w' → Wok w' → w'.g = g' → Rv C.k.K w' v d → E.rt v w'.H
  | .ex c fs ρ g' => ∀ w' σ' cls od, Zl w w' → w'.g = g' → Rel C.k.K w0 w' ρ σ' → Xr C.k w' cls od c fs → C.W cls od σ' w'.H
  | .bad => False
theorem Zl.trans {w w' w'' : Wd} (a : Zl w w') (b : Zl w' w'') : Zl w w'' := ⟨a.zz.trans b.zz, fun s h => by
  obtain ⟨⟨s', h'⟩, e⟩ := a.hd s h
  obtain ⟨h2, e2⟩ := b.hd s' h'
  exact ⟨h2, e2.trans e⟩⟩
theorem PoS.lift {C : Ctx} {w0 w w1 : Wd} {E : Ends} {x : Re Out} (h : PoS C w0 w E x) (z : Zl w w1) : PoS C w0 w1 E x := by
  match x, h with
  | .ok (.nx ρ) g', h => exact fun w' σ' z' => h w' σ' (z.trans z')
  | .ok (.bk ρ) g', h => exact fun w' σ' z' => h w' σ' (z.trans z')
  | .ok (.ct ρ) g', h => exact fun w' σ' z' => h w' σ' (z.trans z')
  | .ok (.rt d) g', h => exact h
  | .ex c fs ρ g', h => exact fun w' σ' cls od z' => h w' σ' cls od (z.trans z')
structure EvS (C : Ctx) (t : TS) (f : Ms) : Prop where
  run : ∀ w0 w ρ σ E, Rel C.k.K w0 w ρ σ → PoS C w0 w E (f ρ w.g) → t E σ w.H
def DS (C : Ctx) (st : Stmt) (f : Ms) : Prop := ∃ t : TS, (∀ X, CtxOk C X → PS X st t) ∧ EvS C t f
def DSs (C : Ctx) (sts : List Stmt) (f : Ms) : Prop := ∃ t : TS, (∀ X, CtxOk C X → PSs X sts t) ∧ EvS C t f
/-- an expression's value is taken -/
def Re.bindS {α : Type} (x : Re α) (ρ : Env) (f : α → G → Re Out) : Re Out :=
  match x with
  | .ok a g => f a g
  | .ex c fs _ g => .ex c fs ρ g
  | .bad => .bad
theorem PoS.bind {C : Ctx} {α β : Type} {RA : Wd → Wd → β → α → Prop} {w0 w : Wd} {ρ : Env} {σ : Sg} {E : Ends} {Q' : β → Hp → Prop} {x : Re α} {f : α → G → Re Out} (R : Rel C.k.K w0 w ρ σ)
    (h : PoS C w0 w E (x.bindS ρ f)) (n : ∀ a v w', x = .ok a w'.g → Grow w w' → Wok w' → Rel C.k.K w0 w' ρ σ → RA w w' v a → PoS C w0 w' E (f a w'.g) → Q' v w'.H) : Po C.k C.W RA w σ Q' x := by
  cases x with
  | ok a g => exact fun v w2 t r => n a v w2 (by rw [t.g]) t.gr t.ok (R.step t.gr t.ok) r (by rw [t.g]; exact PoS.lift h t.gr.zl)
  | ex c fs ρ' g => exact fun w' cls od t x => h w' σ cls od t.gr.zl t.g (R.step t.gr t.ok) x
  | bad => exact h
/-! ### blocks -/
section
variable {C : Ctx} {pos : Pos} {st : Stmt} {rest sts : List Stmt} {f h : Ms}
def sNil : Ms := fun ρ g => .ok (.nx ρ) g
def Re.thn (x : Re Out) (h : Ms) : Re Out := match x with
  | .ok (.nx ρ) g => h ρ g
  | y => y
def sSeq (f h : Ms) : Ms := fun ρ g => (f ρ g).thn h
theorem dss_nil : DSs C [] sNil := ⟨tNext, fun X q => pss_nil, ⟨fun w0 w ρ σ E R q => q w σ (.refl w) rfl R⟩⟩
theorem dss_cons (a : DS C st f) (b : DSs C rest h) : DSs C (st :: rest) (sSeq f h) := by
  obtain ⟨t, p, v⟩ := a
  obtain ⟨u, q, z⟩ := b
  refine ⟨tSeq t u, fun X x => pss_cons (p X x) (q X x), ⟨fun w0 w ρ σ E R k => v.run w0 w ρ σ _ R ?_⟩⟩
  unfold sSeq at k
  generalize f ρ w.g = x at k
  match x, k with
  | .ok (.nx ρ) g', k => exact fun w' σ' z' e R' => z.run w0 w' ρ σ' E R' (by rw [e]; exact k.lift z')
  | .ok (.bk ρ) g', k => exact k
  | .ok (.ct ρ) g', k => exact k
  | .ok (.rt d) g', k => exact k
  | .ex c fs ρ g', k => exact k
theorem dss_one (a : DS C st f) : DSs C [st] f := by
  obtain ⟨t, p, v⟩ := a
  exact ⟨t, fun X x => pss_one (p X x), v⟩
/-! ### small statements -/
theorem ds_pass : DS C (.Pass pos) sNil := ⟨tNext, fun X q => ps_pass, ⟨fun w0 w ρ σ E R q => q w σ (.refl w) rfl R⟩⟩
def sBrk : Ms := fun ρ g => .ok (.bk ρ) g
def sCnt : Ms := fun ρ g => .ok (.ct ρ) g
theorem ds_break : DS C (.Break pos) sBrk := ⟨tBreak, fun X q => ps_break, ⟨fun w0 w ρ σ E R q => q w σ (.refl w) rfl R⟩⟩
theorem ds_continue : DS C (.Continue pos) sCnt := ⟨tCont, fun X q => ps_continue, ⟨fun w0 w ρ σ E R q => q w σ (.refl w) rfl R⟩⟩
theorem ds_doc {x : Str} {j : Nat} {p : Pos} : DS C (.Expr (.Constant (.str x) j p) pos) sNil := ⟨tNext, fun X q => ps_doc, ⟨fun w0 w ρ σ E R q => q w σ (.refl w) rfl R⟩⟩
variable {e : Expr} {fe : Me D} {α : Type}
def sExpr (fe : Me α) : Ms := fun ρ g => (fe ρ g).bindS ρ fun _ g => .ok (.nx ρ) g
theorem ds_expr {RR : Wd → Wd → V → α → Prop} {fe : Me α} (a : DX C RR e fe) (hs : ∀ env, swapsWith e none pos.line env = pure false := by intro _; rfl) : DS C (.Expr e pos) (sExpr fe) := by
  obtain ⟨t, p, v⟩ := a
  exact ⟨tDrop t, fun X x => ps_expr (p X x) (hs _), ⟨fun w0 w ρ σ E R k => v.run w0 w ρ σ _ R (PoS.bind R k fun a v w1 e1 g1 o1 R1 r1 k1 => k1 w1 σ (.refl _) rfl R1)⟩⟩
def sRet (fe : Me D) : Ms := fun ρ g => (fe ρ g).bindS ρ fun d g => .ok (.rt d) g
theorem ds_ret (a : DE C e fe) : DS C (.Return (some e) pos) (sRet fe) := by
  obtain ⟨t, p, v⟩ := a
  exact ⟨tRet t, fun X x => ps_ret (p X x), ⟨fun w0 w ρ σ E R k => v.run w0 w ρ σ _ R (PoS.bind R k fun a v w1 e1 g1 o1 R1 r1 k1 => k1 v w1 R1.gr o1 rfl r1)⟩⟩
def sRetN : Ms := fun ρ g => .ok (.rt .non) g
theorem ds_retN : DS C (.Return none pos) sRetN := ⟨tRetN, fun X x => ps_retN, ⟨fun w0 w ρ σ E R k => k .non w R.gr R.ok rfl .non⟩⟩
def sIf (gc : Me Bool) (f h : Ms) : Ms := fun ρ g => (gc ρ g).bindS ρ fun b g => if b = true then f ρ g else h ρ g
theorem ds_if {c : Expr} {a b : List Stmt} {gc : Me Bool} (hc : DT C c gc) (ha : DSs C a f) (hb : DSs C b h) : DS C (.If c a b pos) (sIf gc f h) := by
  obtain ⟨tc, pc, vc⟩ := hc
  obtain ⟨t, p, v⟩ := ha
  obtain ⟨u, q, z⟩ := hb
  refine ⟨_, fun X x => ps_if (pc X x) (p X x) (q X x), ⟨fun w0 w ρ σ E R k => vc.run w0 w ρ σ _ R (PoS.bind R k fun b bv w1 e1 g1 o1 R1 r1 k1 => ?_)⟩⟩
  cases r1
  cases b with
  | true => exact v.run w0 w1 ρ σ E R1 k1
  | false => exact z.run w0 w1 ρ σ E R1 k1
/-! ### names that take a value -/
def sSet (i : Nat) (fe : Me D) : Ms := fun ρ g => (fe ρ g).bindS ρ fun d g => .ok (.nx (ρ.set i (.im d))) g
theorem ev_set {te : TE} (i : Nat) (v : Ev C (rD C.k) te fe) : EvS C (tAsg te (gName i)) (sSet i fe) :=
  ⟨fun w0 w ρ σ E R k => v.run w0 w ρ σ _ R (PoS.bind R k fun a v w1 e1 g1 o1 R1 r1 k1 => k1 w1 _ (.refl _) rfl (R1.setIm i r1))⟩
theorem ds_set (i : Nat) {x : Str} {p : Pos} (a : DE C e fe) (hN : C.N[i]? = some x := by rfl) (hx : locB C x = true := by rfl)
    (hs : ∀ env, env.scope = C.sc → swapsWith e (some (.Name x p)) pos.line env = pure false := by intro _ _; rfl) : DS C (.Assign [.Name x p] e pos) (sSet i fe) := by
  obtain ⟨t, q, v⟩ := a
  obtain ⟨h1, h2⟩ := loc_of hx
  exact ⟨_, fun X h => ps_set h.nd (by rw [h.N]; exact hN) (by rw [h.sc]; exact h1) (q X h) (hs _ h.sc) (by rw [h.fn, h.sc]; exact h2), ev_set i v⟩
/-- a new own thing goes into a slot -/
theorem Rel.setS {K : PySem.W.Frag} {w0 w : Wd} {ρ : Env} {σ : Sg} (R : Rel K w0 w ρ σ) (i : Nat) {v : V} {s : Sl} (hs : SlOk K w0 w (some (some v)) s)
    (ap : s.own = true → ∀ a j t, v = .ref a → ρ[j]? = some t → t.own = true → σ[j]? = some (some (.ref a)) → j = i) : Rel K w0 w (ρ.set i s) (σ.set i (some v)) := by
  refine ⟨R.ok, R.gr, by rw [List.length_set, List.length_set]; exact R.ln, fun j t h => ?_, fun j k t u a ne h1 h2 o1 o2 e1 e2 => ?_⟩
  · by_cases hj : i = j
    · subst hj
      by_cases hl : i < ρ.length
      · rw [List.getElem?_set_self hl] at h
        cases h
        rw [List.getElem?_set_self (by rw [← R.ln]; exact hl)]
        exact hs
      · rw [List.getElem?_eq_none (by rw [List.length_set]; omega)] at h
        cases h
    · rw [List.getElem?_set_ne hj] at h
      rw [List.getElem?_set_ne hj]
      exact R.sl j t h
  · have self : ∀ {j : Nat} {t : Sl}, i = j → (ρ.set i s)[j]? = some t → (σ.set i (some v))[j]? = some (some (.ref a)) → t = s ∧ v = .ref a := fun {j t} z h e => by
      subst z
      by_cases hl : i < ρ.length
      · rw [List.getElem?_set_self hl] at h
        rw [List.getElem?_set_self (by rw [← R.ln]; exact hl)] at e
        cases h; cases e
        exact ⟨rfl, rfl⟩
      · rw [List.getElem?_eq_none (by rw [List.length_set]; omega)] at h
        cases h
    by_cases zj : i = j
    · obtain ⟨e3, e4⟩ := self zj h1 e1
      by_cases zk : i = k
      · exact ne (zj.symm.trans zk)
      · rw [List.getElem?_set_ne zk] at h2 e2
        subst e3
        exact zk (ap o1 a k u e4 h2 o2 e2).symm
    · rw [List.getElem?_set_ne zj] at h1 e1
      by_cases zk : i = k
      · obtain ⟨e3, e4⟩ := self zk h2 e2
        subst e3
        exact zj (ap o2 a j t e4 h1 o1 e1).symm
      · rw [List.getElem?_set_ne zk] at h2 e2
        exact R.inj j k t u a ne h1 h2 o1 o2 e1 e2
/-- what is own was there -/
theorem Rel.live {K : PySem.W.Frag} {w0 w : Wd} {ρ : Env} {σ : Sg} (R : Rel K w0 w ρ σ) {j : Nat} {t : Sl} {a : Addr} (h : ρ[j]? = some t) (o : t.own = true) (e : σ[j]? = some (some (.ref a))) : w.H a ≠ none := by
  have s := R.sl j t h
  rw [e] at s
  cases s with
  | no => cases o
  | im _ => cases o
  | ow n hh _ => intro z; rw [z] at hh; cases hh
  | od n hh _ _ => intro z; rw [z] at hh; cases hh
  | al _ _ => cases o
theorem New.back {w0 w w' : Wd} (e : Grow w0 w) {a : Addr} (n : New w w' a) : New w0 w' a := ⟨e.back n.h (n.o0.back e), n.o0.back e, n.z, n.off⟩
def sOwn (i : Nat) (fe : Me (List D)) : Ms := fun ρ g => (fe ρ g).bindS ρ fun l g => .ok (.nx (ρ.set i (.ow l))) g
theorem ev_own {te : TE} {fl : Me (List D)} (i : Nat) (v : Ev C (rF C.k) te fl) : EvS C (tAsg te (gName i)) (sOwn i fl) :=
  ⟨fun w0 w ρ σ E R k => v.run w0 w ρ σ _ R (PoS.bind R k fun l v w1 e1 g1 o1 R1 r1 k1 => by
    obtain ⟨a, xs, e, n, h, r⟩ := r1
    subst e
    exact k1 w1 _ (.refl _) rfl (R1.setS i (.ow (n.back R.gr) h r) fun _ b j t eb h1 o2 h2 => by
      cases eb
      exact absurd n.h (R.live h1 o2 h2)))⟩
theorem ds_own (i : Nat) {x : Str} {p : Pos} {fl : Me (List D)} (a : DF C e fl) (hN : C.N[i]? = some x := by rfl) (hx : locB C x = true := by rfl)
    (hs : ∀ env, env.scope = C.sc → swapsWith e (some (.Name x p)) pos.line env = pure false := by intro _ _; rfl) : DS C (.Assign [.Name x p] e pos) (sOwn i fl) := by
  obtain ⟨t, q, v⟩ := a
  obtain ⟨h1, h2⟩ := loc_of hx
  exact ⟨_, fun X h => ps_set h.nd (by rw [h.N]; exact hN) (by rw [h.sc]; exact h1) (q X h) (hs _ h.sc) (by rw [h.fn, h.sc]; exact h2), ev_own i v⟩
theorem Ev.frz {t : TE} {fl : Me (List D)} (v : Ev C (rF C.k) t fl) : Ev C (rD C.k) t (eLst fl) := by
  refine ⟨fun w0 w ρ σ Q R h => v.run w0 w ρ σ Q R ?_⟩
  have h : Po C.k C.W (rD C.k) w σ Q (mapRe D.lst (fl ρ w.g)) := h
  cases q : fl ρ w.g with
  | ok a g =>
    rw [q] at h
    refine fun v w2 t r => ?_
    obtain ⟨x, xs, h1, n, h2, h3⟩ := r
    subst h1
    exact h (.ref x) { w2 with Z := upd w2.Z x (.lst xs) } ⟨t.gr.freeze n, t.ok.freeze h2 n.z n.off, t.g⟩ (.lst upd_same (h3.mono (.put n.z)))
  | ex c fs r g => rw [q] at h; exact h
  | bad => rw [q] at h; exact h
/-- name = [.. for ..], the store within the statement -/
theorem lc_swap {i : Nat} {x : Str} {p : Pos} {elt tg iter : Expr} {ifs : List Expr} {scope : Scope} {fi : Me (List Yd)} {b : Yd → Env → Option Env} {tm : Me Bool} {el : Me D} {vs : List Nat} {lpos : Pos}
    (own : List (Str × Nat)) (hi : DI C Grow tg iter fi) (hg : DY (C.blk scope) tg b vs) (ht : DTs (C.blk scope) ifs tm) (he : DE (C.blk scope) elt el)
    (hv : vs = own.map (·.2)) (ok : blkC C.N C.sc scope own = true) (hs : ∀ env x, foldedSetIterable iter env x = pure x) (hN : C.N[i]? = some x) (hx : C.sc.names.lookup x = some .local) (hk : C.sc.kind = .function) (hl : (p.line == lpos.line) = true)
    (hn : (scope.names.any fun (n, k) => n == x && (k == .local || k == .cell)) = false) :
    ∃ t : TE, (∀ X, CtxOk C X → PS X (.Assign [.Name x p] (.ListComp elt [⟨tg, iter, ifs, 0⟩] scope lpos) pos) (tAsg t (gName i))) ∧ Ev C (rF C.k) t (eComp fi vs b tm el) := by
  obtain ⟨wi, pi, vi⟩ := hi
  obtain ⟨g, pg, vg⟩ := hg
  obtain ⟨tt, pt, vt⟩ := ht
  obtain ⟨te, pe, ve⟩ := he
  subst hv
  exact ⟨_, fun X h => ps_setLc h.calm h.nd (by rw [h.N]; exact hN) (by rw [h.sc]; exact hx) (sw_true (by rw [h.sc]; exact hk) (by rw [h.sc]; exact hx) hl hn) (pi X h) (by rw [h.N, h.sc]; exact blkOk_by ok) (fun s H K cl fp => pg _ (h.blk scope s H K cl fp)) (fun s H K cl fp => pt _ (h.blk scope s H K cl fp)) (fun s H K cl fp => pe _ (h.blk scope s H K cl fp)) (hs _), ev_comp vi vg vt ve⟩
theorem ds_setC (i : Nat) {x : Str} {p : Pos} {elt tg iter : Expr} {ifs : List Expr} {scope : Scope} {fi : Me (List Yd)} {b : Yd → Env → Option Env} {tm : Me Bool} {el : Me D} {vs : List Nat} {lpos : Pos}
    (own : List (Str × Nat)) (hi : DI C Grow tg iter fi) (hg : DY (C.blk scope) tg b vs) (ht : DTs (C.blk scope) ifs tm) (he : DE (C.blk scope) elt el)
    (hv : vs = own.map (·.2) := by rfl) (ok : blkC C.N C.sc scope own = true := by first | decide +kernel | (dsimp only [Ctx.blk]; decide +kernel)) (hs : ∀ env x, foldedSetIterable iter env x = pure x := by intro _ _; rfl) (hN : C.N[i]? = some x := by rfl) (hx : C.sc.names.lookup x = some .local := by rfl) (hk : C.sc.kind = .function := by rfl) (hl : (p.line == lpos.line) = true := by rfl)
    (hn : (scope.names.any fun (n, k) => n == x && (k == .local || k == .cell)) = false := by rfl) : DS C (.Assign [.Name x p] (.ListComp elt [⟨tg, iter, ifs, 0⟩] scope lpos) pos) (sSet i (eLst (eComp fi vs b tm el))) := by
  obtain ⟨t, q, v⟩ := lc_swap own hi hg ht he hv ok hs hN hx hk hl hn (i := i) (pos := pos)
  exact ⟨_, q, ev_set i v.frz⟩
theorem ds_ownC (i : Nat) {x : Str} {p : Pos} {elt tg iter : Expr} {ifs : List Expr} {scope : Scope} {fi : Me (List Yd)} {b : Yd → Env → Option Env} {tm : Me Bool} {el : Me D} {vs : List Nat} {lpos : Pos}
    (own : List (Str × Nat)) (hi : DI C Grow tg iter fi) (hg : DY (C.blk scope) tg b vs) (ht : DTs (C.blk scope) ifs tm) (he : DE (C.blk scope) elt el)
    (hv : vs = own.map (·.2) := by rfl) (ok : blkC C.N C.sc scope own = true := by first | decide +kernel | (dsimp only [Ctx.blk]; decide +kernel)) (hs : ∀ env x, foldedSetIterable iter env x = pure x := by intro _ _; rfl) (hN : C.N[i]? = some x := by rfl) (hx : C.sc.names.lookup x = some .local := by rfl) (hk : C.sc.kind = .function := by rfl) (hl : (p.line == lpos.line) = true := by rfl)
    (hn : (scope.names.any fun (n, k) => n == x && (k == .local || k == .cell)) = false := by rfl) : DS C (.Assign [.Name x p] (.ListComp elt [⟨tg, iter, ifs, 0⟩] scope lpos) pos) (sOwn i (eComp fi vs b tm el)) := by
  obtain ⟨t, q, v⟩ := lc_swap own hi hg ht he hv ok hs hN hx hk hl hn (i := i) (pos := pos)
  exact ⟨_, q, ev_own i v⟩
/-- a target of another form -/
def sAsg (fe : Me D) (b : D → Env → Option Env) : Ms := fun ρ g => (fe ρ g).bindS ρ fun d g => match b d ρ with
  | some ρ' => .ok (.nx ρ') g
  | none => .bad
theorem ds_asg {tg : Expr} {b : D → Env → Option Env} {vs : List Nat} (a : DE C e fe) (hg : DG C tg b vs) (hs : ∀ env, swapsWithSole [tg] e pos.line env = pure false := by intro _; rfl)
    (hw : ∀ env, env.scope = C.sc → swappedStores [tg] e env = pure none := by first | (intro _ _; rfl) | (intro env h; obtain ⟨⟩ := env; cases h; rfl)) (h1 : ∀ env, (assignEach [tg] env).map (·.2) = [assign tg env] := by intro _; rfl) : DS C (.Assign [tg] e pos) (sAsg fe b) := by
  obtain ⟨t, q, v⟩ := a
  obtain ⟨g, pg, vg⟩ := hg
  refine ⟨_, fun X h => ps_asg (q X h) (pg X h) (hs _) (hw _ h.sc) (h1 _), ⟨fun w0 w ρ σ E R k => v.run w0 w ρ σ _ R (PoS.bind R k fun d u w1 e1 g1 o1 R1 r1 k1 => ?_)⟩⟩
  cases hb : b d ρ with
  | none => rw [hb] at k1; exact k1.elim
  | some ρ' =>
    rw [hb] at k1
    exact vg w0 w1 ρ σ d u ρ' _ R1 r1 hb fun σ' R' _ => k1 w1 σ' (.refl _) rfl R'
/-! ### a list of the def's own is shared from now on -/
def frzS (i : Nat) (ρ : Env) : Env := match ρ[i]? with
  | some (.ow l) => ρ.set i (.im (.lst l))
  | some (.od l) => ρ.set i (.im (.dic (l.map (·.1)) (l.map (·.2))))
  | _ => ρ
theorem Rel.frz {K : PySem.W.Frag} {w0 w : Wd} {ρ : Env} {σ : Sg} (R : Rel K w0 w ρ σ) (i : Nat) : ∃ Z, Zl w { w with Z := Z } ∧ Rel K w0 { w with Z := Z } (frzS i ρ) σ := by
  unfold frzS
  split
  · rename_i l hl
    have s := R.sl i _ hl
    generalize hx : σ[i]? = x at s
    cases s with
    | @ow a xs _ n h r =>
      have z : Zl w { w with Z := upd w.Z a (.lst xs) } := ⟨Same.updz n.z, fun s h => ⟨⟨s, h⟩, rfl⟩⟩
      refine ⟨upd w.Z a (.lst xs), z, R.ok.freeze h n.z n.off, R.gr.freeze n, by rw [List.length_set]; exact R.ln, fun j t ht => ?_, fun j k t u b ne h1 h2 o1 o2 e1 e2 => ?_⟩
      · by_cases hj : i = j
        · subst hj
          have hlt : i < ρ.length := (List.getElem?_eq_some_iff.mp hl).1
          rw [List.getElem?_set_self hlt] at ht
          cases ht
          rw [hx]
          exact .im (.lst upd_same (r.mono z))
        · rw [List.getElem?_set_ne hj] at ht
          have s2 := R.sl j t ht
          generalize hy : σ[j]? = y at s2
          cases s2 with
          | no => exact .no
          | im r2 => exact .im (r2.mono z)
          | @ow b ys _ n2 h2 r2 =>
            have nb : b ≠ a := fun e => by
              subst e
              exact R.inj i j _ _ _ hj hl ht rfl rfl hx hy
            exact .ow ⟨n2.h, n2.o0, by show upd w.Z a _ b = none; rw [upd_ne nb]; exact n2.z, n2.off⟩ h2 (r2.mono z)
          | @od b ys _ n2 h2 m2 r2 =>
            have nb : b ≠ a := fun e => by
              subst e
              exact R.inj i j _ _ _ hj hl ht rfl rfl hx hy
            exact .od ⟨n2.h, n2.o0, by show upd w.Z a _ b = none; rw [upd_ne nb]; exact n2.z, n2.off⟩ h2 m2 (r2.mono z)
          | @al s b h2 => exact .al b h2
      · have nj : i ≠ j := fun z => by
          subst z
          rw [List.getElem?_set_self (List.getElem?_eq_some_iff.mp hl).1] at h1; cases h1; cases o1
        have nk : i ≠ k := fun z => by
          subst z
          rw [List.getElem?_set_self (List.getElem?_eq_some_iff.mp hl).1] at h2; cases h2; cases o2
        rw [List.getElem?_set_ne nj] at h1
        rw [List.getElem?_set_ne nk] at h2
        exact R.inj j k t u b ne h1 h2 o1 o2 e1 e2
  · rename_i l hl
    have s := R.sl i _ hl
    generalize hx : σ[i]? = x at s
    cases s with
    | @od a xs _ n h m r =>
      have z : Zl w { w with Z := upd w.Z a (.dK xs) } := ⟨Same.updz n.z, fun s h => ⟨⟨s, h⟩, rfl⟩⟩
      refine ⟨upd w.Z a (.dK xs), z, R.ok.freeze h n.z n.off, R.gr.freeze n, by rw [List.length_set]; exact R.ln, fun j t ht => ?_, fun j k t u b ne h1 h2 o1 o2 e1 e2 => ?_⟩
      · by_cases hj : i = j
        · subst hj
          have hlt : i < ρ.length := (List.getElem?_eq_some_iff.mp hl).1
          rw [List.getElem?_set_self hlt] at ht
          cases ht
          rw [hx]
          exact .im (.dic upd_same m (r.mono z))
        · rw [List.getElem?_set_ne hj] at ht
          have s2 := R.sl j t ht
          generalize hy : σ[j]? = y at s2
          cases s2 with
          | no => exact .no
          | im r2 => exact .im (r2.mono z)
          | @ow b ys _ n2 h2 r2 =>
            have nb : b ≠ a := fun e => by
              subst e
              exact R.inj i j _ _ _ hj hl ht rfl rfl hx hy
            exact .ow ⟨n2.h, n2.o0, by show upd w.Z a _ b = none; rw [upd_ne nb]; exact n2.z, n2.off⟩ h2 (r2.mono z)
          | @od b ys _ n2 h2 m2 r2 =>
            have nb : b ≠ a := fun e => by
              subst e
              exact R.inj i j _ _ _ hj hl ht rfl rfl hx hy
            exact .od ⟨n2.h, n2.o0, by show upd w.Z a _ b = none; rw [upd_ne nb]; exact n2.z, n2.off⟩ h2 m2 (r2.mono z)
          | @al s b h2 => exact .al b h2
      · have nj : i ≠ j := fun z => by
          subst z
          rw [List.getElem?_set_self (List.getElem?_eq_some_iff.mp hl).1] at h1; cases h1; cases o1
        have nk : i ≠ k := fun z => by
          subst z
          rw [List.getElem?_set_self (List.getElem?_eq_some_iff.mp hl).1] at h2; cases h2; cases o2
        rw [List.getElem?_set_ne nj] at h1
        rw [List.getElem?_set_ne nk] at h2
        exact R.inj j k t u b ne h1 h2 o1 o2 e1 e2
  · exact ⟨w.Z, .refl w, R⟩
theorem EvS.frz {t : TS} (i : Nat) (v : EvS C t f) : EvS C t (fun ρ g => f (frzS i ρ) g) := ⟨fun w0 w ρ σ E R k => by
  obtain ⟨Z, z, R'⟩ := R.frz i
  exact v.run w0 { w with Z := Z } _ σ E R' (PoS.lift k z)⟩
theorem dss_frz (i : Nat) (a : DSs C sts f) : DSs C sts (fun ρ g => f (frzS i ρ) g) := by
  obtain ⟨t, p, v⟩ := a
  exact ⟨t, p, v.frz i⟩
theorem ds_frz (i : Nat) (a : DS C st f) : DS C st (fun ρ g => f (frzS i ρ) g) := by
  obtain ⟨t, p, v⟩ := a
  exact ⟨t, p, v.frz i⟩
/-- names that are no more looked at -/
theorem dss_kill (vs : List Nat) (a : DSs C sts f) : DSs C sts (fun ρ g => f (kill vs ρ) g) := by
  obtain ⟨t, p, v⟩ := a
  exact ⟨t, p, ⟨fun w0 w ρ σ E R k => v.run w0 w _ σ E (R.kill vs) k⟩⟩
end
end Dl
set_option Elab.async false
set_option linter.all false
set_option maxRecDepth 100000
set_option maxHeartbeats 1000000
namespace Dl
open PySem PySem.Spec PyProof.Rows L2
/-! ### a, b = x, y -/
inductive SlL (K : PySem.W.Frag) (w0 w : Wd) : List V → List Sl → Prop
  | nil : SlL K w0 w [] []
  | im {v : V} {d : D} {vs : List V} {ss : List Sl} : Rv K w v d → SlL K w0 w vs ss → SlL K w0 w (v :: vs) (.im d :: ss)
  | ow {a : Addr} {xs : List V} {l : List D} {vs : List V} {ss : List Sl} : New w0 w a → w.H a = some (.lst xs) → RvL K w xs l → (∀ (j : Nat) (s : Sl), ss[j]? = some s → s.own = true → vs[j]? = some (V.ref a) → False) → SlL K w0 w vs ss → SlL K w0 w (.ref a :: vs) (.ow l :: ss)
  | od {a : Addr} {xs : List (Key × V)} {l : List (D × D)} {vs : List V} {ss : List Sl} : New w0 w a → w.H a = some (.dK xs) → l.map (·.1) = xs.map (fun p => kD p.1) → RvL K w (xs.map (·.2)) (l.map (·.2)) → (∀ (j : Nat) (s : Sl), ss[j]? = some s → s.own = true → vs[j]? = some (V.ref a) → False) → SlL K w0 w vs ss → SlL K w0 w (.ref a :: vs) (.od l :: ss)
def rS (k : Kt) : Wd → Wd → List V → List Sl → Prop := fun w0 w vs ss => SlL k.K w0 w vs ss
theorem SlL.lift {K : PySem.W.Frag} {w w' w'' : Wd} (e : Grow w w') : ∀ {vs : List V} {ss : List Sl}, SlL K w' w'' vs ss → SlL K w w'' vs ss
  | _, _, .nil => .nil
  | _, _, .im r t => .im r (SlL.lift e t)
  | _, _, .ow n h r a t => .ow (n.back e) h r a (SlL.lift e t)
  | _, _, .od n h m r a t => .od (n.back e) h m r a (SlL.lift e t)
theorem lft_S (k : Kt) : Lft (rS k) := fun _ _ _ _ _ e h => SlL.lift e h
theorem SlL.new {K : PySem.W.Frag} {w w' : Wd} {b : Addr} : ∀ {vs : List V} {ss : List Sl} {j : Nat} {s : Sl}, SlL K w w' vs ss → ss[j]? = some s → s.own = true → vs[j]? = some (.ref b) → New w w' b
  | _, _, _, _, .nil, e, _, _ => by simp at e
  | _, _, 0, _, .im r t, e, o, _ => by simp at e; subst e; cases o
  | _, _, 0, _, .ow n h r a t, e, o, e2 => by simp at e2; subst e2; exact n
  | _, _, 0, _, .od n h m r a t, e, o, e2 => by simp at e2; subst e2; exact n
  | _, _, j + 1, _, .im r t, e, o, e2 => SlL.new (j := j) t (by simpa using e) o (by simpa using e2)
  | _, _, j + 1, _, .ow n h r a t, e, o, e2 => SlL.new (j := j) t (by simpa using e) o (by simpa using e2)
  | _, _, j + 1, _, .od n h m r a t, e, o, e2 => SlL.new (j := j) t (by simpa using e) o (by simpa using e2)
def DAS (C : Ctx) (es : List Expr) (f : Me (List Sl)) : Prop := ∃ t : TA, (∀ X, CtxOk C X → PA X es t) ∧ Ev C (rS C.k) t f
section
variable {C : Ctx} {pos p : Pos} {e a b c : Expr} {es : List Expr} {fe : Me D} {fl : Me (List D)} {fs : Me (List Sl)}
def zNil : Me (List Sl) := fun _ g => .ok [] g
def zIm (fe : Me D) (fs : Me (List Sl)) : Me (List Sl) := fun ρ g => (fe ρ g).bind fun x g => (fs ρ g).bind fun l g => .ok (.im x :: l) g
def zOw (fe : Me (List D)) (fs : Me (List Sl)) : Me (List Sl) := fun ρ g => (fe ρ g).bind fun x g => (fs ρ g).bind fun l g => .ok (.ow x :: l) g
theorem das_nil : DAS C [] zNil := ⟨_, fun X h => pa_nil, ⟨fun w0 w ρ σ Q R h => h [] w (.refl R.ok) .nil⟩⟩
theorem Po.bindAt {k : Kt} {W : WX} {α β γ δ : Type} {RA : Wd → Wd → β → α → Prop} {RB : Wd → Wd → δ → γ → Prop} {wb w : Wd} {σ : Sg} {Q : δ → Hp → Prop} {Q' : β → Hp → Prop} {x : Re α} {f : α → G → Re γ} (e : Grow wb w)
    (h : Po k W RB wb σ Q (x.bind f)) (n : ∀ a v w', x = .ok a w'.g → Grow w w' → Wok w' → RA w w' v a → Po k W RB wb σ Q (f a w'.g) → Q' v w'.H) : Po k W RA w σ Q' x := by
  cases x with
  | ok a g => exact fun v w2 t r => n a v w2 (by rw [t.g]) t.gr t.ok r (by rw [t.g]; exact h)
  | ex c fs ρ g => exact fun w' cls od t x => h w' cls od ⟨e.trans t.gr, t.ok, t.g⟩ x
  | bad => exact h
theorem das_im (ha : DE C e fe) (hs : DAS C es fs) (n : NoStar e es := by intro _; rfl) : DAS C (e :: es) (zIm fe fs) := by
  obtain ⟨ta, pa, va⟩ := ha
  obtain ⟨ts, ps, vs⟩ := hs
  refine ⟨_, fun X h => pa_cons (pa X h) (ps X h) (n _), ⟨fun w0 w ρ σ Q R h => va.run w0 w ρ σ _ R (Po.bindAt (.refl w) h fun x v w1 e1 g1 o1 r1 h1 => vs.run w0 w1 ρ σ _ (R.step g1 o1) (Po.bindAt g1 h1 fun l us w2 e2 g2 o2 r2 h2 => ?_))⟩⟩
  have r2 : SlL C.k.K w1 w2 us l := r2
  exact h2 (v :: us) w2 ⟨g1.trans g2, o2, rfl⟩ (.im (Rv.grow r1 g2) (r2.lift g1))
theorem das_ow (ha : DF C e fl) (hs : DAS C es fs) (n : NoStar e es := by intro _; rfl) : DAS C (e :: es) (zOw fl fs) := by
  obtain ⟨ta, pa, va⟩ := ha
  obtain ⟨ts, ps, vs⟩ := hs
  refine ⟨_, fun X h => pa_cons (pa X h) (ps X h) (n _), ⟨fun w0 w ρ σ Q R h => va.run w0 w ρ σ _ R (Po.bindAt (.refl w) h fun x v w1 e1 g1 o1 r1 h1 => vs.run w0 w1 ρ σ _ (R.step g1 o1) (Po.bindAt g1 h1 fun l us w2 e2 g2 o2 r2 h2 => ?_))⟩⟩
  have r2 : SlL C.k.K w1 w2 us l := r2
  obtain ⟨a, xs, ev, n1, hh, r⟩ := r1
  subst ev
  obtain ⟨n2, hh2⟩ := n1.step hh g2
  exact h2 (.ref a :: us) w2 ⟨g1.trans g2, o2, rfl⟩ (.ow n2 hh2 (r.grow g2) (fun j s hj ho hv => by rw [(r2.new hj ho hv).h] at hh; cases hh) (r2.lift g1))
/-- two names take their things at once -/
def sPar (i j : Nat) (fs : Me (List Sl)) : Ms := fun ρ g => (fs ρ g).bindS ρ fun l g => match l with
  | [s, t] => .ok (.nx ((ρ.set i s).set j t)) g
  | _ => .bad
def sPar3 (i j k : Nat) (fs : Me (List Sl)) : Ms := fun ρ g => (fs ρ g).bindS ρ fun l g => match l with
  | [s, t, u] => .ok (.nx (((ρ.set i s).set j t).set k u)) g
  | _ => .bad
theorem SlL.ok {K : PySem.W.Frag} {w0 w w' : Wd} (e : Grow w0 w) : ∀ {vs : List V} {ss : List Sl} {j : Nat} {v : V} {s : Sl}, SlL K w w' vs ss → vs[j]? = some v → ss[j]? = some s → SlOk K w0 w' (some (some v)) s
  | _, _, _, _, _, .nil, h, _ => by simp at h
  | _, _, 0, _, _, .im r t, h, k => by simp at h k; subst h k; exact .im r
  | _, _, 0, _, _, .ow n h' r a t, h, k => by simp at h k; subst h k; exact .ow (n.back e) h' r
  | _, _, 0, _, _, .od n h' m r a t, h, k => by simp at h k; subst h k; exact .od (n.back e) h' m r
  | _, _, j + 1, _, _, .im r t, h, k => SlL.ok (j := j) e t (by simpa using h) (by simpa using k)
  | _, _, j + 1, _, _, .ow n h' r a t, h, k => SlL.ok (j := j) e t (by simpa using h) (by simpa using k)
  | _, _, j + 1, _, _, .od n h' m r a t, h, k => SlL.ok (j := j) e t (by simpa using h) (by simpa using k)
theorem SlL.apart {K : PySem.W.Frag} {w w' : Wd} {b : Addr} : ∀ {vs : List V} {ss : List Sl} {i j : Nat} {s t : Sl}, SlL K w w' vs ss → i < j → ss[i]? = some s → ss[j]? = some t → s.own = true → t.own = true → vs[i]? = some (.ref b) → vs[j]? = some (.ref b) → False
  | _, _, _, _, _, _, .nil, _, e, _, _, _, _, _ => by simp at e
  | _, _, 0, j + 1, _, _, .im r t, _, e, _, o, _, _, _ => by simp at e; subst e; cases o
  | _, _, 0, j + 1, _, _, .ow n h r a t, _, e, e2, o, o2, e3, e4 => by
    simp at e e3
    subst e e3
    exact a j _ (by simpa using e2) o2 (by simpa using e4)
  | _, _, 0, j + 1, _, _, .od n h m r a t, _, e, e2, o, o2, e3, e4 => by
    simp at e e3
    subst e e3
    exact a j _ (by simpa using e2) o2 (by simpa using e4)
  | _, _, i + 1, j + 1, _, _, .od n h m r a t, hl, e, e2, o, o2, e3, e4 => SlL.apart (i := i) (j := j) t (by omega) (by simpa using e) (by simpa using e2) o o2 (by simpa using e3) (by simpa using e4)
  | _, _, i + 1, j + 1, _, _, .im r t, hl, e, e2, o, o2, e3, e4 => SlL.apart (i := i) (j := j) t (by omega) (by simpa using e) (by simpa using e2) o o2 (by simpa using e3) (by simpa using e4)
  | _, _, i + 1, j + 1, _, _, .ow n h r a t, hl, e, e2, o, o2, e3, e4 => SlL.apart (i := i) (j := j) t (by omega) (by simpa using e) (by simpa using e2) o o2 (by simpa using e3) (by simpa using e4)
theorem SlL.len {K : PySem.W.Frag} {w w' : Wd} : ∀ {vs : List V} {ss : List Sl}, SlL K w w' vs ss → vs.length = ss.length
  | _, _, .nil => rfl
  | _, _, .im _ t => congrArg (· + 1) (SlL.len t)
  | _, _, .ow _ _ _ _ t => congrArg (· + 1) (SlL.len t)
  | _, _, .od _ _ _ _ _ t => congrArg (· + 1) (SlL.len t)
theorem SlL.two {K : PySem.W.Frag} {w w' : Wd} {vs : List V} {s t : Sl} (h : SlL K w w' vs [s, t]) : ∃ v1 v2, vs = [v1, v2] := by
  have e := h.len
  match vs, e with
  | [v1, v2], _ => exact ⟨v1, v2, rfl⟩
theorem set_at {α : Type} {l : List α} {i j : Nat} {x y : α} (h : (l.set i x)[j]? = some y) : (j = i ∧ y = x) ∨ (j ≠ i ∧ l[j]? = some y) := by
  by_cases e : i = j
  · subst e
    by_cases hl : i < l.length
    · rw [List.getElem?_set_self hl] at h; cases h; exact .inl ⟨rfl, rfl⟩
    · rw [List.getElem?_eq_none (by rw [List.length_set]; omega)] at h; cases h
  · rw [List.getElem?_set_ne e] at h
    exact .inr ⟨Ne.symm e, h⟩
theorem ds_par (i j : Nat) {x y : Str} {px py pt pt2 : Pos} {kt k2 : Nat} (ha : DAS C [a, b] fs) (hi : C.N[i]? = some x := by rfl) (hj : C.N[j]? = some y := by rfl) (hij : i ≠ j := by decide)
    (hx : C.sc.names.lookup x = some .local := by rfl) (hy : C.sc.names.lookup y = some .local := by rfl)
    (hw : ∀ env, env.scope = C.sc → swappedStores [.Tuple [.Name x px, .Name y py] kt pt] (.Tuple [a, b] k2 pt2) env = pure (some [x, y]) := by intro env h; obtain ⟨⟩ := env; cases h; rfl)
    (hs : ∀ env, swapsWithSole [.Tuple [.Name x px, .Name y py] kt pt] (.Tuple [a, b] k2 pt2) pos.line env = pure false := by intro _; rfl) : DS C (.Assign [.Tuple [.Name x px, .Name y py] kt pt] (.Tuple [a, b] k2 pt2) pos) (sPar i j fs) := by
  obtain ⟨t, q, v⟩ := ha
  refine ⟨_, fun X h => ps_par h.calm h.nd (by rw [h.N]; exact hi) (by rw [h.N]; exact hj) hij (by rw [h.sc]; exact hx) (by rw [h.sc]; exact hy) (q X h) (hw _ h.sc) (hs _), ⟨fun w0 w ρ σ E R k => v.run w0 w ρ σ _ R (PoS.bind R k fun l us w1 e1 g1 o1 R1 r1 k1 => ?_)⟩⟩
  have r1 : SlL C.k.K w w1 us l := r1
  match l, r1, k1 with
  | [s, t], r1, k1 =>
    obtain ⟨v1, v2, e12⟩ := r1.two
    subst e12
    refine ⟨v1, v2, rfl, k1 w1 _ (.refl _) rfl ?_⟩
    have Ra := R1.setS i (r1.ok R.gr (j := 0) rfl rfl) fun o a j t e h1 o2 h2 => by
      subst e
      exact absurd (r1.new (j := 0) rfl o rfl).h (R.live h1 o2 h2)
    refine Ra.setS j (r1.ok R.gr (j := 1) rfl rfl) fun o a j2 t2 e h1 o2 h2 => ?_
    subst e
    rcases set_at h2 with ⟨_, z⟩ | ⟨nz, z⟩
    · rcases set_at h1 with ⟨_, z2⟩ | ⟨nz2, _⟩
      · subst z2
        have e : v1 = V.ref a := (Option.some.inj z).symm
        subst e
        exact (r1.apart (i := 0) (j := 1) (by omega) rfl rfl o2 o rfl rfl).elim
      · exact absurd (by assumption) nz2
    · rcases set_at h1 with ⟨z1, _⟩ | ⟨_, z2⟩
      · exact absurd z1 nz
      · exact absurd (r1.new (j := 1) rfl o rfl).h (R.live z2 o2 z)
  | [], _, k1 => exact k1.elim
  | [_], _, k1 => exact k1.elim
  | _ :: _ :: _ :: _, _, k1 => exact k1.elim
/-! ### the def's own lists are written -/
theorem Rel.putOw {K : PySem.W.Frag} {w0 w : Wd} {ρ : Env} {σ : Sg} (R : Rel K w0 w ρ σ) {i : Nat} {l : List D} (h : ρ[i]? = some (.ow l)) : ∃ a xs, σ[i]? = some (some (.ref a)) ∧ New w0 w a ∧ w.H a = some (.lst xs) ∧ RvL K w xs l ∧
    ∀ ys l', RvL K w ys l' → Rel K w0 { w with H := upd w.H a (.lst ys) } (ρ.set i (.ow l')) σ := by
  have s := R.sl i _ h
  generalize hx : σ[i]? = x at s
  cases s with
  | @ow a xs _ n hh r =>
    refine ⟨a, xs, rfl, n, hh, r, fun ys l' r' => ⟨R.ok.put n.z n.off, R.gr.put n.h, by rw [List.length_set]; exact R.ln, fun j t ht => ?_, fun j k t u b ne h1 h2 o1 o2 e1 e2 => ?_⟩⟩
    · rcases set_at ht with ⟨z, e⟩ | ⟨nz, e⟩
      · subst z e
        rw [hx]
        exact .ow ⟨n.h, n.o0, n.z, n.off⟩ upd_same (r'.mono .of_H)
      · have s2 := R.sl j t e
        generalize hy : σ[j]? = y at s2
        cases s2 with
        | no => exact .no
        | im r2 => exact .im (r2.mono .of_H)
        | @ow b zs _ n2 h2 r2 =>
          have nb : b ≠ a := fun q => by
            subst q
            exact R.inj j i _ _ _ nz e h rfl rfl hy hx
          exact .ow ⟨n2.h, n2.o0, n2.z, n2.off⟩ (by show upd w.H a _ b = _; rw [upd_ne nb]; exact h2) (r2.mono .of_H)
        | @od b zs _ n2 h2 m2 r2 =>
          have nb : b ≠ a := fun q => by
            subst q
            exact R.inj j i _ _ _ nz e h rfl rfl hy hx
          exact .od ⟨n2.h, n2.o0, n2.z, n2.off⟩ (by show upd w.H a _ b = _; rw [upd_ne nb]; exact h2) m2 (r2.mono .of_H)
        | @al s b h2 => exact .al b h2
    · have look : ∀ {j : Nat} {t : Sl}, (ρ.set i (.ow l'))[j]? = some t → t.own = true → ∃ t', ρ[j]? = some t' ∧ t'.own = true := fun {j t} e o => by
        rcases set_at e with ⟨z, _⟩ | ⟨_, e⟩
        · subst z; exact ⟨_, h, rfl⟩
        · exact ⟨t, e, o⟩
      obtain ⟨t', h1, o1⟩ := look h1 o1
      obtain ⟨u', h2, o2⟩ := look h2 o2
      exact R.inj j k t' u' b ne h1 h2 o1 o2 e1 e2
/-- name.append(e) -/
theorem tyL {K : PySem.W.Frag} {H : Hp} {a : Addr} {xs : List V} (h : H a = some (.lst xs)) : tyV K "list" (.ref a) H := .inl ⟨rfl, xs, .inl (.inl h)⟩
/-- the own list at slot i -/
def atOw (i : Nat) (F : List D → Ms) : Ms := fun ρ g => match ρ[i]? with
  | some (.ow l) => F l ρ g
  | _ => .bad
theorem atOw_inv {i : Nat} {F : List D → Ms} {w0 w : Wd} {ρ : Env} {g : G} {E : Ends} (h : PoS C w0 w E (atOw i F ρ g)) : ∃ l, ρ[i]? = some (.ow l) ∧ PoS C w0 w E (F l ρ g) := by
  unfold atOw at h
  split at h
  · exact ⟨_, by assumption, h⟩
  · exact h.elim
def sApp (i : Nat) (fe : Me D) : Ms := atOw i fun l ρ g => (fe ρ g).bindS ρ fun d g => if l.length < lim then .ok (.nx (ρ.set i (.ow (l ++ [d])))) g else .bad
def sExt (i : Nat) (fe : Me D) : Ms := atOw i fun l ρ g => (fe ρ g).bindS ρ fun d g => match d with
  | .lst m => if l.length + m.length ≤ lim then .ok (.nx (ρ.set i (.ow (l ++ m)))) g else .bad
  | _ => .bad
theorem ds_app (i : Nat) {x : Str} {apos cpos : Pos} (ha : DE C e fe) (hN : C.N[i]? = some x := by rfl) (hv : visB C.sc x = true := by rfl) (hd : (x == ("__debug__" : Str)) = false := by decide +kernel) (hcd : (x == ("__classdict__" : Str)) = false := by decide +kernel)
    (hs : ∀ env, swapsWith (.Call (.Attribute (.Name x p) "append" apos) [e] [] cpos) none pos.line env = pure false := by intro _; rfl)
    (hbase : ∀ env, attributeBase (.Name x p) "append" env (eval (.Name x p) env) = eval (.Name x p) env := by intro _; rfl)
    (hfew : ∀ env, ((backTo cpos (starEach (e :: []) env)).all (fun x => !x.1) && (backToKw cpos (keywordEach [] env)).all (fun x => x.1.isSome) && decide ((e :: []).length + ([] : List Keyword).length + (if ([] : List Keyword).isEmpty then 0 else 1) < 30)) = true := by intro _; rfl)
    (hline : (apos.endLine == cpos.line) = true := by rfl) (n : NoStar e [] := by intro _; rfl) (hplain : ∀ env, (backTo cpos (starEach [] env)).any (·.1) = false := by intro _; rfl) :
    DS C (.Expr (.Call (.Attribute (.Name x p) "append" apos) [e] [] cpos) pos) (sApp i fe) := by
  obtain ⟨t, q, v⟩ := ha
  refine ⟨tDrop (tBM C.k.K "list" rAppend (tVar i) (tCons t tNil)), fun X h => ps_expr (by rw [← h.K]; exact pe_bm PySem.F.plainAttrs_list PySem.F.slot_list_append PySem.F.type_list_append mt_append (pe_slot h hN hv hd hcd) (pa_cons (q X h) pa_nil (n _)) (hbase _) (hfew _) hline (n _) (hplain _)) (hs _), ⟨fun w0 w ρ σ E R k => ?_⟩⟩
  obtain ⟨l, hl, k⟩ := atOw_inv k
  obtain ⟨a, xs, ea, na, ha, ra, put⟩ := R.putOw hl
  refine ⟨_, ea, tyL ha, v.run w0 w ρ σ _ R (PoS.bind R k fun d u w1 e1 g1 o1 R1 r1 k1 => ?_)⟩
  split at k1
  · rename_i z
    obtain ⟨a', xs', ea', na', ha', ra', put'⟩ := R1.putOw hl
    rw [ea] at ea'
    cases ea'
    exact ⟨a, xs', u, rfl, rfl, ha', by rw [ra'.length]; exact Nat.lt_of_lt_of_le z lim_le, k1 { w1 with H := upd w1.H a (.lst (xs' ++ [u])) } σ .of_H rfl (put' _ _ (ra'.append (.cons r1 .nil)))⟩
  · exact k1.elim
theorem ds_ext (i : Nat) {x : Str} {apos cpos : Pos} (ha : DB C e fe) (hN : C.N[i]? = some x := by rfl) (hv : visB C.sc x = true := by rfl) (hd : (x == ("__debug__" : Str)) = false := by decide +kernel) (hcd : (x == ("__classdict__" : Str)) = false := by decide +kernel)
    (hs : ∀ env, swapsWith (.Call (.Attribute (.Name x p) "extend" apos) [e] [] cpos) none pos.line env = pure false := by intro _; rfl)
    (hbase : ∀ env, attributeBase (.Name x p) "extend" env (eval (.Name x p) env) = eval (.Name x p) env := by intro _; rfl)
    (hfew : ∀ env, ((backTo cpos (starEach (e :: []) env)).all (fun x => !x.1) && (backToKw cpos (keywordEach [] env)).all (fun x => x.1.isSome) && decide ((e :: []).length + ([] : List Keyword).length + (if ([] : List Keyword).isEmpty then 0 else 1) < 30)) = true := by intro _; rfl)
    (hline : (apos.endLine == cpos.line) = true := by rfl) (n : NoStar e [] := by intro _; rfl) (hplain : ∀ env, (backTo cpos (starEach [] env)).any (·.1) = false := by intro _; rfl) :
    DS C (.Expr (.Call (.Attribute (.Name x p) "extend" apos) [e] [] cpos) pos) (sExt i fe) := by
  obtain ⟨t, q, v⟩ := ha
  refine ⟨tDrop (tBM C.k.K "list" rExtend (tVar i) (tCons t tNil)), fun X h => ps_expr (by rw [← h.K]; exact pe_bm PySem.F.plainAttrs_list PySem.F.slot_list_extend PySem.F.type_list_extend mt_extend (pe_slot h hN hv hd hcd) (pa_cons (q X h) pa_nil (n _)) (hbase _) (hfew _) hline (n _) (hplain _)) (hs _), ⟨fun w0 w ρ σ E R k => ?_⟩⟩
  obtain ⟨l, hl, k⟩ := atOw_inv k
  obtain ⟨a, xs, ea, na, ha, ra, put⟩ := R.putOw hl
  refine ⟨_, ea, tyL ha, v.run w0 w ρ σ _ R (PoS.bind R k fun d u w1 e1 g1 o1 R1 r1 k1 => ?_)⟩
  split at k1
  · split at k1
    · rename_i z
      obtain ⟨a', xs', ea', na', ha', ra', put'⟩ := R1.putOw hl
      rw [ea] at ea'
      cases ea'
      obtain ⟨b, ys, eb, hb, rb⟩ := Bv.lst o1 r1
      subst eb
      exact ⟨a, b, xs', ys, rfl, rfl, ha', hb, by rw [ra'.length, rb.length]; exact Nat.le_trans z lim_le, k1 { w1 with H := upd w1.H a (.lst (xs' ++ ys)) } σ .of_H rfl (put' _ _ (ra'.append rb))⟩
    · exact k1.elim
  · exact k1.elim
/-- name[b] = e -/
def ixS (n : Nat) : D → Option Nat
  | .int k => ixN n k
  | _ => none
def sPut (i : Nat) (fb fe : Me D) : Ms := atOw i fun l ρ g => (fe ρ g).bindS ρ fun d g => (fb ρ g).bindS ρ fun k g => match ixS l.length k with
  | some j => .ok (.nx (ρ.set i (.ow (l.set j d)))) g
  | none => .bad
theorem ixS_int {n : Nat} {d : D} {j : Nat} (h : ixS n d = some j) : ∃ k, d = .int k ∧ ixN n k = some j := by
  cases d <;> first | exact ⟨_, rfl, h⟩ | cases h
theorem ds_put (i : Nat) {x : Str} {spos : Pos} {fb : Me D} (hb : DB C b fb) (ha : DE C e fe) (hN : C.N[i]? = some x := by rfl) (hv : visB C.sc x = true := by rfl) (hd : (x == ("__debug__" : Str)) = false := by decide +kernel) (hcd : (x == ("__classdict__" : Str)) = false := by decide +kernel)
    (hset : ∀ env v, assign (.Subscript (.Name x p) b spos) env v = (do
      let ov ← holding [v] (eval (.Name x p) env)
      let iv ← holding [v, ov] (eval b env)
      standAt spos
      holding [v, ov, iv] (setItem ov iv v)
      release [v, ov, iv] []) := by intro _ _; rfl)
    (hs : ∀ env, swapsWithSole [.Subscript (.Name x p) b spos] e pos.line env = pure false := by intro _; rfl) (hw : ∀ env, env.scope = C.sc → swappedStores [.Subscript (.Name x p) b spos] e env = pure none := by intro _ _; rfl)
    (h1 : ∀ env, (assignEach [.Subscript (.Name x p) b spos] env).map (·.2) = [assign (.Subscript (.Name x p) b spos) env] := by intro _; rfl) : DS C (.Assign [.Subscript (.Name x p) b spos] e pos) (sPut i fb fe) := by
  obtain ⟨t, q, v⟩ := ha
  obtain ⟨tb, qb, vb⟩ := hb
  refine ⟨_, fun X h => ps_asg (q X h) (pg_sub (pe_slot h hN hv hd hcd) (qb X h) set_list (hset _)) (hs _) (hw _ h.sc) (h1 _), ⟨fun w0 w ρ σ E R k => ?_⟩⟩
  obtain ⟨l, hl, k⟩ := atOw_inv k
  refine v.run w0 w ρ σ _ R (PoS.bind R k fun d u w1 e1 g1 o1 R1 r1 k1 => ?_)
  obtain ⟨a, xs, ea, na, ha, ra, put⟩ := R1.putOw hl
  refine ⟨_, ea, vb.run w0 w1 ρ σ _ R1 (PoS.bind R1 k1 fun kd ku w2 e2 g2 o2 R2 r2 k2 => ?_)⟩
  obtain ⟨a', xs', ea', na', ha', ra', put'⟩ := R2.putOw hl
  rw [ea] at ea'
  cases ea'
  split at k2
  · rename_i j hj
    obtain ⟨kk, e3, e4⟩ := ixS_int hj
    subst e3
    cases Bv.int r2
    exact ⟨a, xs', kk, j, rfl, rfl, ha', by rw [ra'.length]; exact e4, k2 { w2 with H := upd w2.H a (.lst (xs'.set j u)) } σ .of_H rfl (put' _ _ (RvL.set (Rv.grow r1 g2) j ra'))⟩
  · exact k2.elim
/-! ### name op= e -/
def sAug (i : Nat) (F : D → D → G → Re D) (fe : Me D) : Ms := fun ρ g => match ρ[i]? with
  | some (.im x) => (fe ρ g).bindS ρ fun y g => (F x y g).bindS ρ fun z g => .ok (.nx (ρ.set i (.im z))) g
  | _ => .bad
theorem ds_aug (i : Nat) {x : Str} {o : Operator} {ti : TIp} {F : D → D → G → Re D} (ha : DB C e fe) (hp : ∀ X, CtxOk C X → PIp X o ti) (hr : R2ok C (rD C.k) ti F) (hN : C.N[i]? = some x := by rfl) (hx : locB C x = true := by rfl) : DS C (.AugAssign (.Name x p) o e pos) (sAug i F fe) := by
  obtain ⟨t, q, v⟩ := ha
  obtain ⟨h1, h2⟩ := loc_of hx
  refine ⟨_, fun X h => ps_aug h.nd (by rw [h.N]; exact hN) (by rw [h.sc]; exact h1) (q X h) (hp X h) (by rw [h.fn, h.sc]; exact h2), ⟨fun w0 w ρ σ E R k => ?_⟩⟩
  unfold sAug at k
  split at k
  · rename_i d hd
    have s := R.sl i _ hd
    generalize hx : σ[i]? = x at s
    cases s with
    | @im u _ r =>
      exact ⟨u, hx, v.run w0 w ρ σ _ R (PoS.bind R k fun y yv w1 e1 g1 o1 R1 r1 k1 => hr w1 σ d y u yv _ o1 (.inl (r.grow g1)) r1 (PoS.bind R1 k1 fun z zv w2 e2 g2 o2 R2 r2 k2 => k2 w2 _ (.refl _) rfl (R2.setIm i r2)))⟩
  · exact k.elim
theorem r2_ipI {h : Int → Int → Int} {f : Int → Int → Option Int} (hf : ∀ i j k, f i j = some k → k = h i j) : R2ok C (rD C.k) (ipI h) (arI f) := by
  intro w σ x y v u Q o bx by_ p
  unfold arI at p
  split at p
  · rename_i g i j
    cases e : f i j with
    | none => rw [e] at p; exact p.elim
    | some k =>
      rw [e] at p
      cases hf i j k e
      exact ⟨i, j, bx.int, by_.int, p _ w (.refl o) (.int _)⟩
  · exact p.elim
def plusI (i j : Int) : Option Int := some (i + j)
theorem ds_inc (i : Nat) {x : Str} (ha : DB C e fe) (hN : C.N[i]? = some x := by rfl) (hx : locB C x = true := by rfl) : DS C (.AugAssign (.Name x p) .Add e pos) (sAug i (arI plusI) fe) :=
  ds_aug i ha (fun X h => ip_add) (r2_ipI fun i j k e => by unfold plusI at e; cases e; rfl) hN hx
theorem ds_dec (i : Nat) {x : Str} (ha : DB C e fe) (hN : C.N[i]? = some x := by rfl) (hx : locB C x = true := by rfl) : DS C (.AugAssign (.Name x p) .Sub e pos) (sAug i (arI subI) fe) :=
  ds_aug i ha (fun X h => ip_sub) (r2_ipI fun i j k e => by unfold subI at e; cases e; rfl) hN hx
end
end Dl
set_option Elab.async false
set_option linter.all false
set_option maxRecDepth 100000
set_option maxHeartbeats 1000000
namespace Dl
open PySem PySem.Spec PyProof.Rows L2
/-! ### loops -/
/-- what a body came to, within a loop -/
def Re.turn (x : Re Out) (ks : List Nat) (h : Ms) : Re Out := match x with
  | .ok (.nx ρ) g => h (kill ks ρ) g
  | .ok (.ct ρ) g => h (kill ks ρ) g
  | .ok (.bk ρ) g => .ok (.nx (kill ks ρ)) g
  | y => y
def loopF (b : Yd → Env → Option Env) (ks : List Nat) (f : Ms) : List Yd → Ms
  | [], ρ, g => .ok (.nx ρ) g
  | y :: r, ρ, g => match b y ρ with
    | none => .bad
    | some ρ1 => (f ρ1 g).turn ks (loopF b ks f r)
def sFor (fi : Me (List Yd)) (b : Yd → Env → Option Env) (ks : List Nat) (f : Ms) : Ms := fun ρ g => (fi ρ g).bindS ρ fun ys g => loopF b ks f ys (kill ks ρ) g
section
variable {C : Ctx} {pos : Pos} {tg iter : Expr} {body : List Stmt} {f : Ms} {fi : Me (List Yd)} {b : Yd → Env → Option Env} {vs : List Nat}
theorem turn_ends {w0 w1 w3 : Wd} {E : Ends} {N : Sg → Hp → Prop} {ks : List Nat} {h : Ms} {x : Re Out} (z : Zl w1 w3) (p : PoS C w0 w3 E (x.turn ks h))
    (hN : ∀ w' ρ σ', Zl w3 w' → Rel C.k.K w0 w' ρ σ' → PoS C w0 w' E (h ρ w'.g) → N σ' w'.H) : PoS C w0 w3 { E with nx := N, ct := N, bk := E.nx } x := by
  match x, p with
  | .ok (.nx ρ) g', p => exact fun w' σ' z' e R => hN w' (kill ks ρ) σ' z' (R.kill ks) (by rw [e]; exact PoS.lift p z')
  | .ok (.ct ρ) g', p => exact fun w' σ' z' e R => hN w' (kill ks ρ) σ' z' (R.kill ks) (by rw [e]; exact PoS.lift p z')
  | .ok (.bk ρ) g', p => exact fun w' σ' z' e R => p w' σ' z' e (R.kill ks)
  | .ok (.rt d) g', p => exact p
  | .ex c fs ρ g', p => exact p
theorem ds_for (ks : List Nat) (hi : DI C Zl tg iter fi) (hg : DY C tg b vs) (hb : DSs C body f) (hs : ∀ env x, foldedSetIterable iter env x = pure x := by intro _ _; rfl) : DS C (.For tg iter body [] pos) (sFor fi b ks f) := by
  obtain ⟨wi, pi, vi⟩ := hi
  obtain ⟨g, pg, vg⟩ := hg
  obtain ⟨tb, pb, vb⟩ := hb
  refine ⟨_, fun X h => ps_for h.pa h.calm (pi X h) (pg X h) (pb X h) (hs _), ⟨fun w0 w ρ σ E R k => vi.run w0 w ρ σ _ R (PoS.bind R k fun ys J w1 e1 g1 o1 R1 it k1 => ?_)⟩⟩
  have it : ItOk Zl C.k.K w1 J ys := it
  let Inv := fun (i : Nat) (σ : Sg) (H : Hp) => ∃ (w2 : Wd) (ρ2 : Env), H = w2.H ∧ Zl w1 w2 ∧ Rel C.k.K w0 w2 ρ2 σ ∧ PoS C w0 w2 E (loopF b ks f (ys.drop i) ρ2 w2.g)
  refine ⟨fun i m σ H => m = ys.length - i ∧ i ≤ ys.length ∧ Inv i σ H, ⟨ys.length, by simp, Nat.zero_le _, w1, _, rfl, .refl _, R1.kill ks, k1⟩, ?_⟩
  rintro i m σ2 H ⟨rfl, hi2, w2, ρ2, rfl, z2, R2, p2⟩
  by_cases hlt : i < ys.length
  · refine .inr ⟨it.go w2 z2 R2.ok i hlt, Inv (i + 1), fun σ' H' q => ⟨ys.length - (i + 1), by omega, rfl, hlt, q⟩, fun x H' hy => ?_⟩
    have yo := it.yld w2 z2 R2.ok i _ x H' (List.getElem?_eq_getElem hlt) hy
    rw [List.drop_eq_getElem_cons hlt] at p2
    unfold loopF at p2
    cases hbb : b ys[i] ρ2 with
    | none => rw [hbb] at p2; exact p2.elim
    | some ρ1 =>
      rw [hbb] at p2
      dsimp only at p2
      refine vg w0 w2 _ _ ys[i] x H' ρ1 _ R2 yo hbb fun w3 σ3 t3 R3 wi3 => ?_
      have z3 := z2.trans t3.gr.zl
      rw [← t3.g] at p2
      exact vb.run w0 w3 ρ1 σ3 _ R3 (turn_ends z3 (PoS.lift p2 t3.gr.zl) fun w' ρ' σ' z' R' p' => ⟨w', ρ', rfl, z3.trans z', R', p'⟩)
  · have ei : i = ys.length := by omega
    subst ei
    rw [List.drop_length] at p2
    exact .inl ⟨it.stop w2 z2 R2.ok, p2 w2 σ2 (.refl _) rfl R2⟩
/-- turns of a while loop: never so many -/
abbrev fuel : Nat := 1000000000000
def whileF (gc : Me Bool) (ks : List Nat) (f : Ms) : Nat → Ms
  | 0, _, _ => .bad
  | n + 1, ρ, g => (gc ρ g).bindS ρ fun k g => if k = true then (f ρ g).turn ks (whileF gc ks f n) else .ok (.nx ρ) g
def sWhile (gc : Me Bool) (ks : List Nat) (f : Ms) : Ms := fun ρ g => whileF gc ks f fuel (kill ks ρ) g
theorem ds_while (ks : List Nat) {c : Expr} {gc : Me Bool} (hc : DT C c gc) (hb : DSs C body f) : DS C (.While c body [] pos) (sWhile gc ks f) := by
  obtain ⟨tc, pc, vc⟩ := hc
  obtain ⟨tb, pb, vb⟩ := hb
  refine ⟨_, fun X h => ps_while h.pa (pc X h) (pb X h), ⟨fun w0 w ρ σ E R k => ?_⟩⟩
  refine ⟨fun n σ H => ∃ (w2 : Wd) (ρ2 : Env), H = w2.H ∧ Rel C.k.K w0 w2 ρ2 σ ∧ PoS C w0 w2 E (whileF gc ks f n ρ2 w2.g), ⟨fuel, w, _, rfl, R.kill ks, k⟩, ?_⟩
  rintro n σ2 H ⟨w2, ρ2, rfl, R2, p2⟩
  cases n with
  | zero => exact p2.elim
  | succ n =>
    unfold whileF at p2
    refine vc.run w0 w2 ρ2 σ2 _ R2 (PoS.bind R2 p2 fun b bv w3 e3 g3 o3 R3 r3 p3 => ?_)
    cases r3
    cases b with
    | false =>
      rw [if_neg Bool.false_ne_true] at p3 ⊢
      exact p3 w3 σ2 (.refl _) rfl R3
    | true =>
      rw [if_pos rfl] at p3 ⊢
      exact ⟨fun σ' H' => ∃ (w2 : Wd) (ρ2 : Env), H' = w2.H ∧ Rel C.k.K w0 w2 ρ2 σ' ∧ PoS C w0 w2 E (whileF gc ks f n ρ2 w2.g), fun σ' H' q => ⟨n, Nat.lt_succ_self n, q⟩, vb.run w0 w3 ρ2 σ2 _ R3 (turn_ends (.refl w3) p3 fun w' ρ' σ' z' R' p' => ⟨w', ρ', rfl, R', p'⟩)⟩
end
end Dl
set_option Elab.async false
set_option linter.all false
set_option maxRecDepth 100000
set_option maxHeartbeats 1000000
namespace Dl
open PySem PySem.Spec PyProof.Rows L2
/-! ### a def's promise, where no guard is up -/
structure FnG (P : Program) (w : World) (K : PySem.W.Frag) (mg : Str → Option Value) (base : Heap) (k : Nat) (f : Addr) (fd : FuncData) (ps : List Str) (sp : Sp) : Prop where
  len : ∀ vs H Q E, sp vs H Q E → vs.length = ps.length
  run : ∀ (A : Around) (outer : List PySem.Env) (s : Shared) (H : Hp) (args : Args) (us : List Value) (vs : List V) (Q : VK) (E : XK), Room k A → A.guards = some [] → Env0 P w K mg base A outer s H → BindsTo s fd args (ps.zip us) → Vals vs us → sp vs H Q E →
    codeAny (model P w) A (.call (.ref f) args) (CR (L2.CX P w) outer P w H s Q E) s
theorem FnG.mono {P : Program} {w : World} {K : PySem.W.Frag} {mg : Str → Option Value} {base : Heap} {j k : Nat} {f : Addr} {fd : FuncData} {ps : List Str} {sp : Sp} (F : FnG P w K mg base j f fd ps sp) (h : j ≤ k) : FnG P w K mg base k f fd ps sp :=
  ⟨F.len, fun A outer s H args us vs Q E hr hg => F.run A outer s H args us vs Q E (hr.mono h) hg⟩
section
variable {P : Program} {w : World} {K : PySem.W.Frag} {mg : Str → Option Value} {base : Heap}
theorem fnG_of {k : Nat} {x qual : Str} {st : Stmt} {f : Addr} {fd : FuncData} {N ps : List Str} {sp : Sp} (F : Fun K x qual st f fd) (S : FnScope N ps (defScope st)) (len : ∀ vs H Q E, sp vs H Q E → vs.length = ps.length)
    (body : ∀ (cdv : Value) (A : Around) (outer : List PySem.Env) (s : Shared) (H : Hp) (vs : List V) (Q : VK) (E : XK), Room k (A.deeper (envOfC qual (defScope st) s.heap.objs.size f cdv)) → A.guards = some [] → sp vs H Q E →
      ∃ t, PSs (cxOf (L2.CX P w) P w K mg base N qual (defScope st) f cdv A outer s H E) (defBody st) t ∧ t { nx := fun _ H' => Q .non H', rt := Q } (start N vs) H) : FnG P w K mg base (k + 1) f fd ps sp := by
  obtain ⟨oc, od, kV, doc, pm, an, cdv, ct, osl, rfl, lk, hcd⟩ := F.ex
  refine ⟨len, fun A outer s H args us vs Q E room gd e0 bd rv want => ?_⟩
  have there : K.In s.heap := e0.mod.kin.keeps fun b o q => (e0.bs b o q).1
  have unlim : s.heap.NoLimit := e0.mod.nolimit.keeps fun b o q => (e0.bs b o q).1
  refine codeAny_call_function room.depth (there _ _ lk) rfl S.co S.gen rfl (PySem.W.codeRec_of there hcd) (bd _ _ _ _ ?_)
  have kinds : ∀ y ∈ ps.zip us, (defScope st).names.lookup y.1 = some .local ∨ ((defScope st).names.lookup y.1 = some .cell ∧ ((cellsFrom (s.heap.objs.size + 1) (defScope st).names []).lookup y.1).isSome = true) := by
    rintro ⟨n, v⟩ hm
    cases S.par n (List.of_mem_zip hm).1 with
    | inl q => exact .inl q
    | inr q => exact .inr ⟨q, PySem.W.cellsFrom_some _ _ _ (.inl q)⟩
  refine wpAny_newFunctionEnv_cells S.kind kinds fun en ee s1 ic => ?_
  cases ee
  obtain ⟨t, ok, got⟩ := body cdv A outer s H vs Q E (room.deeper _) gd want
  have at0 := inv_start (CX := L2.CX P w) (qual := qual) (f := f) (cd := cdv) (E := E) S room.hd e0 (len _ _ _ _ want) rv ic
  refine ⟨unlim.keeps ic.toInCall.keep, codeAny_func (wpAny_mono (ok.run [] s1 (start N vs) H _ at0 got) (fun fl s' h => ?_) fun _ _ h => h)⟩
  match fl, h with
  | .ret u, ⟨v, σ', H', J, r, q⟩ => exact ⟨v, H', J.os, J.bare, J.base, J.hok, r, q⟩
  | .next, ⟨σ', H', J, q⟩ => exact ⟨.non, H', J.os, J.bare, J.base, J.hok, rfl, q⟩
  | .brk, ⟨_, _, _, q⟩ => exact q.elim
  | .cont, ⟨_, _, _, q⟩ => exact q.elim
end
/-! ### a def that computes a function -/
def Pf (k : Kt) (w : Wd) (Q : VK) (E : XK) (x : Re D) : Prop := Po k (fun cls od _ H => E cls od H) (rD k) w [] Q x
def spD (k : Kt) (n : Nat) (Φ : List D → G → Re D) : Sp := fun vs H Q E => ∃ (w : Wd) (ds : List D), H = w.H ∧ Wok w ∧ RvL k.K w vs ds ∧ ds.length = n ∧ Pf k w Q E (Φ ds w.g)
/-- what a body comes to, for the caller -/
def fin (x : Re Out) : Re D := match x with
  | .ok (.nx _) g => .ok .non g
  | .ok (.rt d) g => .ok d g
  | .ex c fs _ g => .ex c fs [] g
  | _ => .bad
def entry (n : Nat) (ds : List D) : Env := ds.map Sl.im ++ List.replicate (n - ds.length) Sl.no
def bodyF (n : Nat) (f : Ms) : List D → G → Re D := fun ds g => fin (f (entry n ds) g)
structure DFn (P : Program) (w : World) (k : Kt) (base : Heap) (lv : Nat) (x : Str) (n : Nat) (Φ : List D → G → Re D) : Prop where
  ex : ∃ (f : Addr) (fd : FuncData) (ps : List Str), FnG P w k.K k.mg base lv f fd ps (spD k n Φ) ∧ k.mg x = some (.ref f) ∧ PySem.W.keepIn k.K (.ref f) = true ∧ Binds k.K fd ps [] ∧ ps.length = n
theorem DFn.mono {P : Program} {w : World} {k : Kt} {base : Heap} {lv lv' : Nat} {x : Str} {n : Nat} {Φ : List D → G → Re D} (F : DFn P w k base lv x n Φ) (h : lv ≤ lv') : DFn P w k base lv' x n Φ := by
  obtain ⟨f, fd, ps, a, b⟩ := F.ex
  exact ⟨f, fd, ps, a.mono h, b⟩
theorem rel_entry {K : PySem.W.Frag} {w : Wd} {vs : List V} {ds : List D} {N : List Str} (o : Wok w) (r : RvL K w vs ds) : Rel K w w (entry N.length ds) (start N vs) := by
  have hl := r.length
  refine ⟨o, .refl w, by unfold entry L2.start; rw [List.length_append, List.length_append, List.length_map, List.length_map, List.length_replicate, List.length_replicate, hl], fun i s h => ?_, fun i j s t a ne h1 h2 o1 o2 e1 e2 => ?_⟩
  · unfold entry at h
    by_cases hi : i < ds.length
    · rw [List.getElem?_append_left (by simpa using hi), List.getElem?_map, List.getElem?_eq_getElem hi] at h
      cases h
      obtain ⟨v, hv, rv⟩ := r.get (List.getElem?_eq_getElem hi)
      have e : (start N vs)[i]? = some (some v) := by
        unfold L2.start
        rw [List.getElem?_append_left (by rw [List.length_map, hl]; exact hi), List.getElem?_map, hv]
        rfl
      rw [e]
      exact .im rv
    · rw [List.getElem?_append_right (by simpa using hi), List.getElem?_replicate] at h
      split at h
      · cases h; exact .no
      · cases h
  · unfold entry at h1
    by_cases hi : i < ds.length
    · rw [List.getElem?_append_left (by simpa using hi), List.getElem?_map, List.getElem?_eq_getElem hi] at h1
      cases h1
      cases o1
    · rw [List.getElem?_append_right (by simpa using hi), List.getElem?_replicate] at h1
      split at h1
      · cases h1; cases o1
      · cases h1
/-- THE RULE for a def: its body's function -/
theorem dfn_of {P : Program} {w : World} {k : Kt} {base : Heap} {lv : Nat} {x qual : Str} {st : Stmt} {f : Addr} {fd : FuncData} {N ps : List Str} {b : Ms} (F : Fun k.K x qual st f fd) (S : FnScope N ps (defScope st)) (hm : k.mg x = some (.ref f)) (hb : Binds k.K fd ps [])
    (body : ∀ W : WX, DSs ⟨P, w, k, base, N, defScope st, lv, W, fun _ => true, true⟩ (defBody st) b) : DFn P w k base (lv + 1) x ps.length (bodyF N.length b) := by
  refine ⟨f, fd, ps, fnG_of F S (fun vs H Q E h => ?_) (fun cdv A outer s H vs Q E room gd h => ?_), hm, F.kp, hb, rfl⟩
  · obtain ⟨_, ds, _, _, r, l, _⟩ := h
    rw [r.length, l]
  · obtain ⟨wd, ds, rfl, o, r, l, want⟩ := h
    obtain ⟨t, p, v⟩ := body fun cls od _ H => E cls od H
    refine ⟨t, p _ ⟨rfl, rfl, rfl, rfl, rfl, rfl, S.nd, rfl, rfl, room, gd, takes_of rfl rfl rfl rfl, passes_of rfl, rfl, fun _ => ⟨rfl, rfl⟩⟩, v.run wd wd (entry N.length ds) (start N vs) _ (rel_entry o r) ?_⟩
    unfold Pf bodyF at want
    generalize b (entry N.length ds) wd.g = y at want
    match y, want with
    | .ok (.nx ρ) g', want => exact fun w' σ' z e R => want .non w' ⟨R.gr, R.ok, e⟩ .non
    | .ok (.rt d) g', want => exact fun v w' gr ok e rv => want v w' ⟨gr, ok, e⟩ rv
    | .ex c fs ρ g', want => exact fun w' σ' cls od z e R x => want w' cls od ⟨R.gr, R.ok, e⟩ x
/-- .. that calls itself: by the levels -/
theorem DFn.imp {P : Program} {w : World} {k : Kt} {base : Heap} {lv : Nat} {x : Str} {n : Nat} {Φ Ψ : List D → G → Re D} (F : DFn P w k base lv x n Φ) (h : ∀ ds g, Ψ ds g ≠ .bad → ds.length = n → Φ ds g = Ψ ds g) : DFn P w k base lv x n Ψ := by
  obtain ⟨f, fd, ps, a, b⟩ := F.ex
  refine ⟨f, fd, ps, ⟨fun vs H Q E ⟨_, ds, _, _, r, l, _⟩ => ?_, fun A outer s H args us vs Q E hr hg e0 hb hv ⟨wd, ds, e, o, r, l, q⟩ => a.run A outer s H args us vs Q E hr hg e0 hb hv ⟨wd, ds, e, o, r, l, ?_⟩⟩, b⟩
  · rw [r.length, l, b.2.2.2]
  · by_cases z : Ψ ds wd.g = .bad
    · rw [z] at q; exact q.elim
    · rw [h ds wd.g z l]; exact q
/-! ### calls -/
section
variable {X : Cx} {W : WX} {k : Nat} {f : Addr} {fd : FuncData} {ps : List Str} {sp : Sp} {x : Str} {p pos : Pos} {e : Expr} {es : List Expr} {t : TA}
theorem run_G {pins : List (Addr × Obj)} {σ : Sg} {H : Hp} {s : Shared} {Q : VK} {us : List Value} {vs : List V} (F : FnG X.prog X.w X.K X.mg X.base k f fd ps sp) (hr : Room k X.A) (gd : X.A.guards = some []) (hb : Binds X.K fd ps []) (tk : Takes X W)
    (I : Inv X pins σ H s) (r : Vals vs us) (h : sp vs H Q fun cls d H' => W cls d σ H') : wpAny (model X.prog X.w) X.A (call (.ref f) us) (EP X pins σ Q) X.xe s := by
  have hl : (us ++ []).length = ps.length := by rw [List.append_nil, ← r.length]; exact F.len _ _ _ _ h
  have b := hb s us I.kIn hl
  rw [List.append_nil] at b
  refine wpAny_call (codeAny_mono (F.run X.A X.stack s H ⟨us, []⟩ us vs Q _ hr gd I.env0 b r h) fun r s' hq => ?_)
  match r, hq with
  | .error e, hq => exact tk e s' (XE.of_call I (fun _ _ _ h => h) hq)
  | .ok (.ret u), hq => exact I.after hq
theorem pe_callG (F : FnG X.prog X.w X.K X.mg X.base k f fd ps sp) (hr : Room k X.A) (gd : X.A.guards = some []) (hg : Gl X x) (hm : X.mg x = some (.ref f)) (hk : PySem.W.keepIn X.K (.ref f) = true) (hb : Binds X.K fd ps []) (tk : Takes X W) (ha : PA X (e :: es) t)
    (hdb : (x == ("__debug__" : Str)) = false) (he : starEach (e :: es) X.env = (false, eval e X.env) :: starEach es X.env) (hpl : (backTo pos (starEach es X.env)).any (·.1) = false) :
    PE X (.Call (.Name x p) (e :: es) [] pos) (fun σ H Q => t σ H fun vs H1 => sp vs H1 Q fun cls d H' => W cls d σ H') := by
  refine ⟨fun pins s σ H Q I h => wpAny_Call_Name_kw (ld_glob I hg hm ?_ hdb)⟩
  exact PySem.W.callWith_K (h₀ := X.base) I.ok.mod.kin hk (thn (ha.run pos pins s σ H _ I h) fun us s1 ⟨vs, H1, I1, r, q⟩ => ⟨I1.kIn, run_G F hr gd hb tk I1 r q⟩) he hpl
theorem pe_callG0 (F : FnG X.prog X.w X.K X.mg X.base k f fd ps sp) (hr : Room k X.A) (gd : X.A.guards = some []) (hg : Gl X x) (hm : X.mg x = some (.ref f)) (hk : PySem.W.keepIn X.K (.ref f) = true) (hb : Binds X.K fd ps []) (tk : Takes X W)
    (hdb : (x == ("__debug__" : Str)) = false) : PE X (.Call (.Name x p) [] [] pos) (fun σ H Q => sp [] H Q fun cls d H' => W cls d σ H') := by
  refine ⟨fun pins s σ H Q I h => wpAny_Call_Name_kw (ld_glob I hg hm ?_ hdb)⟩
  exact PySem.W.callWith_K0 I.kIn hk (run_G (us := []) F hr gd hb tk I .nil h)
end
section
variable {C : Ctx} {x : Str} {p pos : Pos} {e : Expr} {es : List Expr} {fs : Me (List D)} {lv n : Nat} {Φ : List D → G → Re D}
def eCall (n : Nat) (Φ : List D → G → Re D) (fs : Me (List D)) : Me D := fun ρ g => (fs ρ g).bind fun l g => if l.length = n then Φ l g else .bad
theorem de_call (F : DFn C.P C.w C.k C.base lv x n Φ) (ha : DA C (e :: es) fs) (hl : lv ≤ C.lv := by first | decide | (dsimp only [Ctx.blk]; decide)) (hg : glB C.sc x = true := by rfl) (hdb : (x == ("__debug__" : Str)) = false := by decide +kernel) (ns : NoStar e es := by intro _; rfl) (hpl : ∀ env, (backTo pos (starEach es env)).any (·.1) = false := by intro _; rfl) :
    DE C (.Call (.Name x p) (e :: es) [] pos) (eCall n Φ fs) := by
  obtain ⟨t, q, v⟩ := ha
  obtain ⟨f, fd, ps, F, hm, hk, hb, hn⟩ := F.ex
  refine ⟨_, fun X h => pe_callG (W := C.W) (sp := spD C.k n Φ) (by rw [h.P, h.w, h.K, h.mg, h.base]; exact F) (h.room.mono hl) h.gd (h.gl hg) (by rw [h.mg]; exact hm) (by rw [h.K]; exact hk) (by rw [h.K]; exact hb) h.tk (q X h) hdb (ns _) (hpl _), ⟨fun w0 w ρ σ Q R k => v.run w0 w ρ σ _ R (Po.bind (lft_D _) k fun l us w1 e1 g1 o1 r1 k1 => ?_)⟩⟩
  split at k1
  · rename_i z
    refine ⟨w1, l, rfl, o1, r1, z, ?_⟩
    unfold Pf
    match Φ l w1.g, k1 with
    | .ok a g', k1 => exact k1
    | .ex c fs r g', k1 => exact k1
  · exact k1.elim
theorem de_call0 (F : DFn C.P C.w C.k C.base lv x 0 Φ) (hl : lv ≤ C.lv := by first | decide | (dsimp only [Ctx.blk]; decide)) (hg : glB C.sc x = true := by rfl) (hdb : (x == ("__debug__" : Str)) = false := by decide +kernel) : DE C (.Call (.Name x p) [] [] pos) (fun _ g => Φ [] g) := by
  obtain ⟨f, fd, ps, F, hm, hk, hb, hn⟩ := F.ex
  refine ⟨_, fun X h => pe_callG0 (W := C.W) (sp := spD C.k 0 Φ) (by rw [h.P, h.w, h.K, h.mg, h.base]; exact F) (h.room.mono hl) h.gd (h.gl hg) (by rw [h.mg]; exact hm) (by rw [h.K]; exact hk) (by rw [h.K]; exact hb) h.tk hdb, ⟨fun w0 w ρ σ Q R k => ?_⟩⟩
  refine ⟨w, [], rfl, R.ok, .nil, rfl, ?_⟩
  unfold Pf
  have k : Po C.k C.W (rD C.k) w σ Q (Φ [] w.g) := k
  match Φ [] w.g, k with
  | .ok a g', k1 => exact k1
  | .ex c fs r g', k1 => exact k1
end
end Dl
set_option Elab.async false
set_option linter.all false
set_option maxRecDepth 100000
set_option maxHeartbeats 1000000
namespace Dl
open PySem PySem.Spec PyProof.Rows L2
/-! ### the drawing state -/
abbrev stK (c r : V) (n : Int) : List (Key × V) := [(.inr ("cells" : Str), c), (.inr ("great" : Str), r), (.inr ("spot" : Str), .int n)]
theorem k_cg : ¬ ((.inr ("cells" : Str) : Key) = .inr ("great" : Str)) := by decide +kernel
theorem k_cs : ¬ ((.inr ("cells" : Str) : Key) = .inr ("spot" : Str)) := by decide +kernel
theorem k_gs : ¬ ((.inr ("great" : Str) : Key) = .inr ("spot" : Str)) := by decide +kernel
theorem s_cg : ¬ (("cells" : Str) = ("great" : Str)) := by decide +kernel
theorem s_cs : ¬ (("cells" : Str) = ("spot" : Str)) := by decide +kernel
theorem s_gs : ¬ (("great" : Str) = ("spot" : Str)) := by decide +kernel
theorem v_cells (c r : V) (n : Int) : valV (stK c r n) (.inr ("cells" : Str)) = some c := valV_pos rfl
theorem v_great (c r : V) (n : Int) : valV (stK c r n) (.inr ("great" : Str)) = some r := (valV_neg k_cg).trans (valV_pos rfl)
theorem v_spot (c r : V) (n : Int) : valV (stK c r n) (.inr ("spot" : Str)) = some (.int n) := (valV_neg k_cs).trans ((valV_neg k_gs).trans (valV_pos rfl))
theorem put_spot (c r : V) (n m : Int) : putK (stK c r n) (.inr ("spot" : Str)) (.int m) = stK c r m := by
  unfold putK
  simp [s_cs, s_gs]
theorem put_great (c r r' : V) (n : Int) : putK (stK c r n) (.inr ("great" : Str)) r' = stK c r' n := by
  unfold putK
  simp [s_cg, Ne.symm s_gs]
theorem mk_state (c r : V) (n : Int) : mergeK [] (stK c r n) = stK c r n := by
  unfold mergeK putK
  simp [s_cg, s_cs, s_gs]
theorem To.spot {w : Wd} {s : Gs} (o : Wok w) (hg : w.g = some s) (n : Int) : To w { w with H := upd w.H w.m (.dK (stK (.ref w.c) (.ref w.r) n)), g := some { s with spot := n } } (some { s with spot := n }) := by
  have d := o.drw s hg
  have mr : w.m ≠ w.r := fun e => by have h := d.hm; rw [e, d.hr] at h; cases h
  refine ⟨⟨Same.refl _, fun a u h f => ⟨?_, fun z => z⟩, fun s' _ => ⟨⟨_, rfl⟩, rfl, rfl, rfl⟩, fun h => by rw [hg] at h; cases h⟩, ⟨fun a u h => ?_, fun s' hs' => ?_⟩, rfl⟩
  · rcases f with f | ⟨f, _⟩
    · rw [hg] at f; cases f
    · show upd w.H w.m _ a = _; rw [upd_ne f]; exact h
  · have h : w.Z a = some u := h
    show upd w.H w.m _ a = _
    rw [upd_ne (ne_of_none h d.zm)]
    exact o.sub a u h
  · have e : s' = { s with spot := n } := (Option.some.inj hs').symm
    subst e
    exact ⟨upd_same, d.zc, by show upd w.H w.m _ w.r = _; rw [upd_ne (Ne.symm mr)]; exact d.hr, d.zm, d.zr⟩
theorem To.great {w : Wd} {s : Gs} (o : Wok w) (hg : w.g = some s) (l : List Int) : To w { w with H := upd w.H w.r (.lst (l.map V.int)), g := some { s with great := l } } (some { s with great := l }) := by
  have d := o.drw s hg
  have mr : w.m ≠ w.r := fun e => by have h := d.hm; rw [e, d.hr] at h; cases h
  refine ⟨⟨Same.refl _, fun a u h f => ⟨?_, fun z => z⟩, fun s' _ => ⟨⟨_, rfl⟩, rfl, rfl, rfl⟩, fun h => by rw [hg] at h; cases h⟩, ⟨fun a u h => ?_, fun s' hs' => ?_⟩, rfl⟩
  · rcases f with f | ⟨_, f⟩
    · rw [hg] at f; cases f
    · show upd w.H w.r _ a = _; rw [upd_ne f]; exact h
  · have h : w.Z a = some u := h
    show upd w.H w.r _ a = _
    rw [upd_ne (ne_of_none h d.zr)]
    exact o.sub a u h
  · have e : s' = { s with great := l } := (Option.some.inj hs').symm
    subst e
    exact ⟨by show upd w.H w.r _ w.m = _; rw [upd_ne mr]; exact d.hm, d.zc, upd_same, d.zm, d.zr⟩
/-- the slot holds the state -/
theorem Rel.hd {K : PySem.W.Frag} {w0 w : Wd} {ρ : Env} {σ : Sg} (R : Rel K w0 w ρ σ) {i : Nat} (h : ρ[i]? = some (.im .hdl)) : σ[i]? = some (some (.ref w.m)) ∧ ∃ s, w.g = some s := by
  have s := R.sl i _ h
  generalize hx : σ[i]? = x at s
  cases s with
  | im r => cases r with | hdl hg => exact ⟨rfl, _, hg⟩
theorem Rel.alOf {K : PySem.W.Frag} {w0 w : Wd} {ρ : Env} {σ : Sg} (R : Rel K w0 w ρ σ) {i : Nat} {b : Bool} (h : ρ[i]? = some (.al b)) : σ[i]? = some (some (.ref (if b = true then w.r else w.c))) ∧ ∃ s, w.g = some s := by
  have s := R.sl i _ h
  generalize hx : σ[i]? = x at s
  cases s with
  | al _ hg => exact ⟨rfl, _, hg⟩
def hdlAt (i : Nat) {α : Type} (F : Gs → Env → Re α) : Me α := fun ρ g => match ρ[i]?, g with
  | some (.im .hdl), some s => F s ρ
  | _, _ => .bad
theorem hdlAt_inv {α : Type} {i : Nat} {F : Gs → Env → Re α} {ρ : Env} {g : G} (h : hdlAt i F ρ g ≠ .bad) : ∃ s, ρ[i]? = some (.im .hdl) ∧ g = some s ∧ hdlAt i F ρ g = F s ρ := by
  unfold hdlAt at h ⊢
  split at h
  · rename_i s h1
    exact ⟨s, h1, rfl, by simp⟩
  · exact absurd rfl h
def alAt (j : Nat) {α : Type} (F : Bool → Me α) : Me α := fun ρ g => match ρ[j]? with
  | some (.al b) => F b ρ g
  | _ => .bad
def Gs.lot (s : Gs) (b : Bool) : List Int := if b = true then s.great else s.cells
section
variable {C : Ctx} {pos p p2 : Pos} {x : Str} {fe fb : Me D} {e b : Expr}
theorem po_ne {k : Kt} {W : WX} {α β : Type} {RR : Wd → Wd → β → α → Prop} {w : Wd} {σ : Sg} {Q : β → Hp → Prop} {y : Re α} (h : Po k W RR w σ Q y) : y ≠ .bad := fun z => by rw [z] at h; exact h
theorem pos_ne {w0 w : Wd} {E : Ends} {y : Re Out} (h : PoS C w0 w E y) : y ≠ .bad := fun z => by rw [z] at h; exact h
/-- m['spot'] -/
def eSpot (i : Nat) : Me D := hdlAt i fun s _ => .ok (.int s.spot) (some s)
theorem de_spot (i : Nat) {j : Nat} (hN : C.N[i]? = some x := by rfl) (hv : visB C.sc x = true := by rfl) (hd : (x == ("__debug__" : Str)) = false := by decide +kernel) (hcd : (x == ("__classdict__" : Str)) = false := by decide +kernel) (hs : NoSl (.Constant (.str "spot") j p2) := by intro _ _; rfl) : DE C (.Subscript (.Name x p) (.Constant (.str "spot") j p2) pos) (eSpot i) := by
  refine ⟨_, fun X h => pe_dget h.u1 (pe_slot h hN hv hd hcd) pe_str hs, ⟨fun w0 w ρ σ Q R k => ?_⟩⟩
  obtain ⟨s, h1, h2, h3⟩ := hdlAt_inv (po_ne k)
  unfold eSpot at k
  rw [h3] at k
  obtain ⟨e, _⟩ := R.hd h1
  have d := R.ok.drw s h2
  refine ⟨_, e, w.m, .int s.spot, rfl, ?_, k _ w (h2 ▸ .refl R.ok) (.int _)⟩
  have g := DGet.k (k := .inr ("spot" : Str)) d.hm
  rw [v_spot] at g
  exact g
/-- m['spot'] = e -/
def sSpot (i : Nat) (fe : Me D) : Ms := fun ρ g => (fe ρ g).bindS ρ fun d g => hdlAt i (fun s ρ => match d with
  | .int n => .ok (.nx ρ) (some { s with spot := n })
  | _ => .bad) ρ g
theorem ds_spot (i : Nat) {j : Nat} (ha : DE C e fe) (hN : C.N[i]? = some x := by rfl) (hv : visB C.sc x = true := by rfl) (hd : (x == ("__debug__" : Str)) = false := by decide +kernel) (hcd : (x == ("__classdict__" : Str)) = false := by decide +kernel)
    {spos : Pos} (hs : ∀ env, swapsWith e (some (.Subscript (.Name x p) (.Constant (.str "spot") j p2) spos)) pos.line env = pure false := by intro _; rfl) : DS C (.Assign [.Subscript (.Name x p) (.Constant (.str "spot") j p2) spos] e pos) (sSpot i fe) := by
  obtain ⟨t, q, v⟩ := ha
  refine ⟨_, fun X h => ps_dput h.u1 (pe_slot h hN hv hd hcd) pe_str (q X h) (hs _), ⟨fun w0 w ρ σ E R k => v.run w0 w ρ σ _ R (PoS.bind R k fun d u w1 e1 g1 o1 R1 r1 k1 => ?_)⟩⟩
  obtain ⟨s, h1, h2, h3⟩ := hdlAt_inv (pos_ne k1)
  rw [h3] at k1
  obtain ⟨em, _⟩ := R1.hd h1
  have dr := o1.drw s h2
  cases d with
  | int n =>
    cases r1
    have t := To.spot o1 h2 n
    refine ⟨_, em, w1.m, _, rfl, DPut.k (k := .inr ("spot" : Str)) dr.hm (by rw [sizeLine_eq]; exact (by decide : 3 < 16777216)), ?_⟩
    rw [put_spot]
    exact k1 _ σ t.gr.zl t.g (R1.step t.gr t.ok)
  | _ => exact k1.elim
/-- m['great'] != [] -/
def tGreat (i : Nat) : Me Bool := hdlAt i fun s _ => .ok (!s.great.isEmpty) (some s)
theorem dpI {K : PySem.W.Frag} {H : Hp} : ∀ ns : List Int, DpAll K H (ns.map V.int) (ns.map PyData.int)
  | [] => .nil
  | n :: r => .cons (.int n) (dpI r)
theorem eqv_nil : ∀ ns : List Int, PyData.eqv (.list (ns.map PyData.int)) (.list []) = ns.isEmpty
  | [] => rfl
  | _ :: _ => rfl
theorem shaped_ints (ns : List Int) : SeqAt.shaped (.list (ns.map PyData.int)) = true := by
  have h := dn_shaped (d := .lst (ns.map D.int)) (by
    show (ns.map D.int).all (dn 39) = true
    rw [List.all_map]
    exact List.all_eq_true.mpr fun _ _ => rfl)
  have e : (D.lst (ns.map D.int)).py = .list (ns.map PyData.int) := by
    rw [D.py, pyL_map, List.map_map]
    rfl
  rw [e] at h
  exact h
theorem dt_great (i : Nat) {j : Nat} {p3 p4 : Pos} (hN : C.N[i]? = some x := by rfl) (hv : visB C.sc x = true := by rfl) (hd : (x == ("__debug__" : Str)) = false := by decide +kernel) (hcd : (x == ("__classdict__" : Str)) = false := by decide +kernel) (hs : NoSl (.Constant (.str "great") j p2) := by intro _ _; rfl) :
    DT C (.Compare (.Subscript (.Name x p) (.Constant (.str "great") j p2) p3) [.NotEq] [.List [] p4] pos) (tGreat i) := by
  refine ⟨tTest (tOp (rNeD C.k.K) (tDGet (tVar i) (tC (.str "great"))) (tLst tNil)), fun X h => by rw [← h.K]; exact pt_cmpR (op_neD h.u64) (pe_dget h.u1 (pe_slot h hN hv hd hcd) pe_str hs) (pe_lst pa_nil) rfl, ⟨fun w0 w ρ σ Q R k => ?_⟩⟩
  obtain ⟨s, h1, h2, h3⟩ := hdlAt_inv (po_ne k)
  unfold tGreat at k
  rw [h3] at k
  obtain ⟨em, _⟩ := R.hd h1
  have d := R.ok.drw s h2
  have g := DGet.k (k := .inr ("great" : Str)) d.hm
  rw [v_great] at g
  refine ⟨_, em, w.m, _, rfl, g, Nat.zero_le _, fun q hq => ?_⟩
  have nq : w.r ≠ q := ne_of_none d.hr hq
  have t : To w { w with H := upd w.H q (.lst []) } w.g := .new R.ok hq
  refine ⟨_, _, .lst (.inl (.inl (by show upd w.H q _ w.r = _; rw [upd_ne nq]; exact d.hr))) (dpI s.great), .lst (xs := []) (.inl (.inl upd_same)) .nil, shaped_ints _, by decide, ?_⟩
  rw [eqv_nil]
  exact ⟨_, rfl, k _ { w with H := upd w.H q (.lst []) } ⟨t.gr, t.ok, h2⟩ rfl⟩
/-- y = m['great'], y = m['cells'] -/
def sAlias (i j : Nat) (b : Bool) : Ms := hdlAt i fun s ρ => .ok (.nx (ρ.set j (.al b))) (some s)
theorem ds_alias (i j : Nat) (bb : Bool) {y key : Str} {jj : Nat} {p3 : Pos} (hk : key = (if bb = true then ("great" : Str) else ("cells" : Str)) := by rfl) (hN : C.N[i]? = some x := by rfl) (hv : visB C.sc x = true := by rfl) (hN2 : C.N[j]? = some y := by rfl) (hx2 : locB C y = true := by rfl) (hd : (x == ("__debug__" : Str)) = false := by decide +kernel) (hcd : (x == ("__classdict__" : Str)) = false := by decide +kernel)
    (hs : NoSl (.Constant (.str key) jj p2) := by intro _ _; rfl) {py : Pos} (hsw : ∀ env, swapsWith (.Subscript (.Name x p) (.Constant (.str key) jj p2) p3) (some (.Name y py)) pos.line env = pure false := by intro _; rfl) :
    DS C (.Assign [.Name y py] (.Subscript (.Name x p) (.Constant (.str key) jj p2) p3) pos) (sAlias i j bb) := by
  obtain ⟨l1, l2⟩ := loc_of hx2
  refine ⟨_, fun X h => ps_set h.nd (by rw [h.N]; exact hN2) (by rw [h.sc]; exact l1) (pe_dget h.u1 (pe_slot h hN hv hd hcd) pe_str hs) (hsw _) (by rw [h.fn, h.sc]; exact l2), ⟨fun w0 w ρ σ E R k => ?_⟩⟩
  obtain ⟨s, h1, h2, h3⟩ := hdlAt_inv (pos_ne k)
  unfold sAlias at k
  rw [h3] at k
  obtain ⟨em, _⟩ := R.hd h1
  have d := R.ok.drw s h2
  have gt : DGet w.H w.m (.str key) (some (.ref (if bb = true then w.r else w.c))) := by
    subst hk
    cases bb with
    | true =>
      have g := DGet.k (k := .inr ("great" : Str)) d.hm
      rw [v_great] at g
      exact g
    | false =>
      have g := DGet.k (k := .inr ("cells" : Str)) d.hm
      rw [v_cells] at g
      exact g
  exact ⟨_, em, w.m, _, rfl, gt, k w _ (.refl _) h2 (R.setS j (.al bb h2) fun o => by cases o)⟩
theorem lot_at {w : Wd} {s : Gs} (o : Wok w) (h : w.g = some s) (b : Bool) : w.H (if b = true then w.r else w.c) = some (.lst ((s.lot b).map V.int)) := by
  have d := o.drw s h
  cases b with
  | true => exact d.hr
  | false => exact o.sub _ _ d.zc
/-- len(y) -/
def eLenA (j : Nat) : Me D := alAt j fun b _ g => match g with
  | some s => .ok (.int (s.lot b).length) (some s)
  | none => .bad
theorem de_lenA (j : Nat) {p3 : Pos} (hm : C.k.mg "len" = none) (hN : C.N[j]? = some x := by rfl) (hv : visB C.sc x = true := by rfl) (hg : glB C.sc "len" = true := by rfl) (hd : (x == ("__debug__" : Str)) = false := by decide +kernel) (hcd : (x == ("__classdict__" : Str)) = false := by decide +kernel) : DE C (.Call (.Name "len" p3) [.Name x p] [] pos) (eLenA j) := by
  refine ⟨tCB (fun xs H Q => ∃ x n, xs = [x] ∧ LenV C.k.K x H n ∧ Q (.int n) H) (tCons (tVar j) tNil), fun X h => pe_callB (by rw [← h.K]; exact call_len) (h.gl hg) (by rw [h.mg]; exact hm) boot_len (pa_cons (pe_slot h hN hv hd hcd) pa_nil) (by decide +kernel) (by decide +kernel), ⟨fun w0 w ρ σ Q R k => ?_⟩⟩
  unfold eLenA alAt at k
  split at k
  · rename_i b hb
    obtain ⟨e, s, hs⟩ := R.alOf hb
    rw [hs] at k
    exact ⟨_, e, _, (s.lot b).length, rfl, .inl ⟨_, .inl (.inl (lot_at R.ok hs b)), by rw [List.length_map]⟩, k _ w ⟨.refl w, R.ok, hs⟩ (.int _)⟩
  · exact k.elim
/-- y[b] -/
def eIxA (j : Nat) (fb : Me D) : Me D := alAt j fun b ρ g => (fb ρ g).bind fun k g => match k, g with
  | .int i, some s => op ((atI (s.lot b) i).map D.int) (some s)
  | _, _ => .bad
theorem atI_map {α β : Type} (f : α → β) (l : List α) (i : Int) : atI (l.map f) i = (atI l i).map f := by
  unfold atI
  rw [List.length_map]
  cases ixN l.length i with
  | none => rfl
  | some k => exact List.getElem?_map ..
theorem de_ixA (j : Nat) (hb : DB C b fb) (hN : C.N[j]? = some x := by rfl) (hv : visB C.sc x = true := by rfl) (hd : (x == ("__debug__" : Str)) = false := by decide +kernel) (hcd : (x == ("__classdict__" : Str)) = false := by decide +kernel) (hs : PlainIx b := by intro _ _; rfl) : DE C (.Subscript (.Name x p) b pos) (eIxA j fb) := by
  obtain ⟨tb, q, v⟩ := hb
  refine ⟨tOp (rIx C.k.K) (tVar j) tb, fun X h => pe_ix (by rw [← h.K]; exact ix_seq) (pe_slot h hN hv hd hcd) (q X h) hs, ⟨fun w0 w ρ σ Q R k => ?_⟩⟩
  unfold eIxA alAt at k
  split at k
  · rename_i bb hb
    obtain ⟨e, _⟩ := R.alOf hb
    refine ⟨_, e, v.run w0 w ρ σ _ R (Po.bind (lft_D _) k fun d u w1 e1 g1 o1 r1 k1 => ?_)⟩
    obtain ⟨e', s, hs⟩ := (R.step g1 o1).alOf hb
    rw [e] at e'
    rw [hs] at k1
    cases d with
    | int i =>
      cases Bv.int r1
      have k1 : Po C.k C.W (rD C.k) w1 σ Q (op ((atI (s.lot bb) i).map D.int) (some s)) := k1
      cases z : atI (s.lot bb) i with
      | none => rw [z] at k1; exact k1.elim
      | some n =>
        rw [z] at k1
        refine .inl ⟨(if bb = true then w1.r else w1.c), _, i, .int n, (Option.some.inj (Option.some.inj e')), rfl, .inl (.inl (lot_at o1 hs bb)), by rw [atI_map, z]; rfl, k1 _ w1 ⟨.refl w1, o1, hs⟩ (.int n)⟩
    | _ => exact k1.elim
  · exact k.elim
/-- y[b] = e, y the great ones -/
def sPutA (j : Nat) (fb fe : Me D) : Ms := alAt j fun bb ρ g => (fe ρ g).bindS ρ fun d g => (fb ρ g).bindS ρ fun k g => match bb, d, g with
  | true, .int n, some s => match ixS s.great.length k with
    | some q => .ok (.nx ρ) (some { s with great := s.great.set q n })
    | none => .bad
  | _, _, _ => .bad
theorem ds_putA (j : Nat) {spos : Pos} (hb : DB C b fb) (ha : DE C e fe) (hN : C.N[j]? = some x := by rfl) (hv : visB C.sc x = true := by rfl) (hd : (x == ("__debug__" : Str)) = false := by decide +kernel) (hcd : (x == ("__classdict__" : Str)) = false := by decide +kernel)
    (hset : ∀ env v, assign (.Subscript (.Name x p) b spos) env v = (do
      let ov ← holding [v] (eval (.Name x p) env)
      let iv ← holding [v, ov] (eval b env)
      standAt spos
      holding [v, ov, iv] (setItem ov iv v)
      release [v, ov, iv] []) := by intro _ _; rfl)
    (hs : ∀ env, swapsWithSole [.Subscript (.Name x p) b spos] e pos.line env = pure false := by intro _; rfl) (hw : ∀ env, env.scope = C.sc → swappedStores [.Subscript (.Name x p) b spos] e env = pure none := by intro _ _; rfl)
    (h1 : ∀ env, (assignEach [.Subscript (.Name x p) b spos] env).map (·.2) = [assign (.Subscript (.Name x p) b spos) env] := by intro _; rfl) : DS C (.Assign [.Subscript (.Name x p) b spos] e pos) (sPutA j fb fe) := by
  obtain ⟨t, q, v⟩ := ha
  obtain ⟨tb, qb, vb⟩ := hb
  refine ⟨_, fun X h => ps_asg (q X h) (pg_sub (pe_slot h hN hv hd hcd) (qb X h) set_list (hset _)) (hs _) (hw _ h.sc) (h1 _), ⟨fun w0 w ρ σ E R k => ?_⟩⟩
  unfold sPutA alAt at k
  split at k
  · rename_i bb hb
    refine v.run w0 w ρ σ _ R (PoS.bind R k fun d u w1 e1 g1 o1 R1 r1 k1 => ?_)
    obtain ⟨ea, _⟩ := R1.alOf hb
    refine ⟨_, ea, vb.run w0 w1 ρ σ _ R1 (PoS.bind R1 k1 fun kd ku w2 e2 g2 o2 R2 r2 k2 => ?_)⟩
    obtain ⟨ea', s, hs⟩ := R2.alOf hb
    rw [ea] at ea'
    rw [hs] at k2
    cases bb with
    | false => exact k2.elim
    | true =>
      cases d with
      | int n =>
        dsimp only at k2
        split at k2
        · rename_i qq hq
          obtain ⟨kk, e3, e4⟩ := ixS_int hq
          subst e3
          cases Bv.int r2
          cases r1
          have tt := To.great o2 hs (s.great.set qq n)
          have er : w1.r = w2.r := by simpa using ea'
          refine ⟨w2.r, s.great.map V.int, kk, qq, by rw [← er]; rfl, rfl, lot_at o2 hs true, by rw [List.length_map]; exact e4, ?_⟩
          have em : (s.great.map V.int).set qq (.int n) = (s.great.set qq n).map V.int := List.map_set.symm
          rw [em]
          exact k2 _ σ tt.gr.zl tt.g (R2.step tt.gr tt.ok)
        · exact k2.elim
      | _ => exact k2.elim
  · exact k.elim
end
end Dl
set_option Elab.async false
set_option linter.all false
set_option maxRecDepth 100000
set_option maxHeartbeats 1000000
namespace Dl
open PySem PySem.Spec PyProof.Rows L2
/-! ### the state begins -/
theorem ints_ref {K : PySem.W.Frag} {w : Wd} {v : V} {ds : List D} {ns : List Int} (r : Rv K w v (.lst ds)) (h : intsD ds = some ns) : ∃ a, v = .ref a ∧ w.Z a = some (.lst (ns.map V.int)) := by
  cases r with
  | lst hz l =>
    rw [ints_map h] at l
    cases RvL.ints_inv l
    exact ⟨_, rfl, hz⟩
def sBeginB (i : Nat) (h : Ms) (ρ : Env) (cells : List Int) : List D → G → Re Out := fun l g => match intsD l, g with
  | some great, none => h (ρ.set i (.im .hdl)) (some ⟨cells, great, 0⟩)
  | _, _ => .bad
def sBeginA (i : Nat) (fl : Me (List D)) (h : Ms) (ρ : Env) : D → G → Re Out := fun d g => match d, g with
  | .lst ds, none => match intsD ds with
    | some cells => (fl (ρ.set i .no) none).bindS (ρ.set i .no) (sBeginB i h ρ cells)
    | none => .bad
  | _, _ => .bad
def sBegin (i : Nat) (fe : Me D) (fl : Me (List D)) (h : Ms) : Ms := fun ρ g => match g, ρ[i]? with
  | none, some _ => (fe ρ none).bindS ρ (sBeginA i fl h ρ)
  | _, _ => .bad
section
variable {C : Ctx} {x : Str} {e e2 : Expr} {fe : Me D} {fl : Me (List D)} {h : Ms} {rest : List Stmt}
theorem dss_begin (i : Nat) {px px2 p1 p2 p3 p4 p5 pd pos sp pos2 : Pos} {j1 j2 j3 j4 j5 : Nat} (ha : DE C e fe) (hl : DF C e2 fl) (hr : DSs C rest h) (hN : C.N[i]? = some x := by rfl) (hv : visB C.sc x = true := by rfl) (hx : locB C x = true := by rfl) (hd : (x == ("__debug__" : Str)) = false := by decide +kernel) (hcd : (x == ("__classdict__" : Str)) = false := by decide +kernel)
    (hs1 : ∀ env, swapsWith (.Dict [some (.Constant (.str "cells") j1 p1), some (.Constant (.str "great") j2 p2), some (.Constant (.str "spot") j3 p3)] [e, .List [] p4, .Constant (.int 0) j4 p5] pd) (some (.Name x px)) pos.line env = pure false := by intro _; rfl)
    (hs2 : ∀ env, swapsWith e2 (some (.Subscript (.Name x px2) (.Constant (.str "great") j5 p1) sp)) pos2.line env = pure false := by intro _; rfl) {p6 : Pos} (hs3 : ∀ env, swapsWith e2 (some (.Subscript (.Name x px2) (.Constant (.str "great") j5 p6) sp)) pos2.line env = pure false := by intro _; rfl) :
    DSs C (.Assign [.Name x px] (.Dict [some (.Constant (.str "cells") j1 p1), some (.Constant (.str "great") j2 p2), some (.Constant (.str "spot") j3 p3)] [e, .List [] p4, .Constant (.int 0) j4 p5] pd) pos ::
      .Assign [.Subscript (.Name x px2) (.Constant (.str "great") j5 p6) sp] e2 pos2 :: rest) (sBegin i fe fl h) := by
  obtain ⟨t, q, v⟩ := ha
  obtain ⟨tl, ql, vl⟩ := hl
  obtain ⟨tr, qr, vr⟩ := hr
  obtain ⟨l1, l2⟩ := loc_of hx
  refine ⟨_, fun X k => pss_cons (ps_set k.nd (by rw [k.N]; exact hN) (by rw [k.sc]; exact l1) (pe_disp (pps_cons pe_str (q X k) (pps_cons pe_str (pe_lst pa_nil) (pps_cons pe_str pe_int pps_nil))) rfl rfl (by simp) (by simp)) (hs1 _) (by rw [k.fn, k.sc]; exact l2))
    (pss_cons (ps_dput k.u1 (pe_slot k hN hv hd hcd) pe_str (ql X k) (hs3 _)) (qr X k)), ⟨fun w0 w ρ σ E R k => ?_⟩⟩
  unfold sBegin at k
  split at k
  case h_2 => exact k.elim
  rename_i sl hg hsl
  · have hil : i < σ.length := by rw [← R.ln]; exact (List.getElem?_eq_some_iff.mp hsl).1
    intro m hm
    have gN : Grow w { w with H := upd w.H m (.dK []) } := .new hm
    have R1 : Rel C.k.K w0 { w with H := upd w.H m (.dK []) } ρ σ := R.step gN (R.ok.new hm)
    have k : PoS C w0 w E ((fe ρ w.g).bindS ρ (sBeginA i fl h ρ)) := by rw [hg]; exact k
    have k : PoS C w0 { w with H := upd w.H m (.dK []) } E ((fe ρ w.g).bindS ρ (sBeginA i fl h ρ)) := PoS.lift k gN.zl
    refine v.run w0 { w with H := upd w.H m (.dK []) } ρ σ _ R1 (PoS.bind R1 k fun d u w1 e1 g1 o1 R2 r2 k2 => ?_)
    unfold sBeginA at k2
    split at k2
    case h_2 => exact k2.elim
    rename_i ds hg1
    split at k2
    case h_2 => exact k2.elim
    rename_i cells hc
    obtain ⟨c, eu, zc⟩ := ints_ref r2 hc
    subst eu
    have hm1 : w1.H m = some (.dK []) := (g1.keep m _ upd_same (.inl hg)).1
    have zm1 : w1.Z m = none := by
      have nm := (New.of (u := .dK []) R.ok hm)
      exact (g1.keep m _ upd_same (.inl hg)).2 nm.z
    refine ⟨Nat.zero_le _, fun r hr => ?_⟩
    have nmr : m ≠ r := ne_of_none hm1 hr
    refine ⟨by show upd w1.H r _ m = _; rw [upd_ne nmr]; exact hm1, stK (.ref c) (.ref r) 0, rfl, (by decide : 3 ≤ 15), ?_⟩
    rw [mk_state]
    -- the world in which the slot holds the dict
    have g2 : Grow w1 { w1 with H := upd w1.H r (.lst []) } := .new hr
    have gA : Grow w { w1 with H := upd (upd w1.H r (.lst [])) m (.dK (stK (.ref c) (.ref r) 0)) } := (gN.trans (g1.trans g2)).put hm
    have oA : Wok { w1 with H := upd (upd w1.H r (.lst [])) m (.dK (stK (.ref c) (.ref r) 0)) } := (o1.new hr).put zm1 (.inl hg1)
    have RA : Rel C.k.K w0 { w1 with H := upd (upd w1.H r (.lst [])) m (.dK (stK (.ref c) (.ref r) 0)) } (ρ.set i .no) (σ.set i (some (.ref m))) := (R.step gA oA).setS i .no fun o => by cases o
    have k2 : PoS C w0 w1 E ((fl (ρ.set i .no) w1.g).bindS (ρ.set i .no) (sBeginB i h ρ cells)) := by rw [hg1]; exact k2
    have kA : PoS C w0 { w1 with H := upd (upd w1.H r (.lst [])) m (.dK (stK (.ref c) (.ref r) 0)) } E ((fl (ρ.set i .no) w1.g).bindS (ρ.set i .no) (sBeginB i h ρ cells)) := PoS.lift k2 ⟨Same.refl _, fun s hs => ⟨⟨s, hs⟩, rfl⟩⟩
    show tl (σ.set i (some (.ref m))) (upd (upd w1.H r (.lst [])) m (.dK (stK (.ref c) (.ref r) 0))) _
    refine vl.run w0 { w1 with H := upd (upd w1.H r (.lst [])) m (.dK (stK (.ref c) (.ref r) 0)) } (ρ.set i .no) (σ.set i (some (.ref m))) _ RA (PoS.bind RA kA fun l u w2 e2 g3 o3 R3 r3 k3 => ?_)
    unfold sBeginB at k3
    split at k3
    case h_2 => exact k3.elim
    rename_i great hi2 hg2
    obtain ⟨b, xs, eb, nb, hb, rb⟩ := r3
    subst eb
    rw [ints_map hi2] at rb
    cases RvL.ints_inv rb
    have hm2 : w2.H m = some (.dK (stK (.ref c) (.ref r) 0)) := (g3.keep m _ upd_same (.inl hg1)).1
    have zm2 : w2.Z m = none := (g3.keep m _ upd_same (.inl hg1)).2 zm1
    have nbm : b ≠ m := fun z => by
      have q : (upd (upd w1.H r (.lst [])) m (.dK (stK (.ref c) (.ref r) 0))) b = none := nb.h
      rw [z, upd_same] at q
      cases q
    have gB : Grow w w2 := gA.trans g3
    have hm2 : w2.H m = some (.dK (stK (.ref c) (.ref r) 0)) := hm2
    refine ⟨_, List.getElem?_set_self hil, m, _, rfl, DPut.k (k := .inr ("great" : Str)) hm2 (by rw [sizeLine_eq]; exact (by decide : 3 < 16777216)), ?_⟩
    rw [put_great]
    have hb0 : w.H b = none := by
      cases z : w.H b with
      | none => rfl
      | some o =>
        have := (gA.keep b o z (.inl hg)).1
        rw [nb.h] at this
        cases this
    have zcell : w2.Z c = some (.lst (cells.map V.int)) := g3.zz _ _ zc
    have o5 : Wok { w2 with H := upd w2.H m (.dK (stK (.ref c) (.ref b) 0)), g := some ⟨cells, great, 0⟩, m := m, c := c, r := b } := by
      refine ⟨fun a u h => ?_, fun s hs => ?_⟩
      · have h : w2.Z a = some u := h
        show upd w2.H m _ a = _
        rw [upd_ne (ne_of_none h zm2)]
        exact o3.sub a u h
      · have es : s = ⟨cells, great, 0⟩ := (Option.some.inj hs).symm
        subst es
        exact ⟨upd_same, zcell, by show upd w2.H m _ b = _; rw [upd_ne nbm]; exact hb, zm2, nb.z⟩
    have g5 : Grow w { w2 with H := upd w2.H m (.dK (stK (.ref c) (.ref b) 0)), g := some ⟨cells, great, 0⟩, m := m, c := c, r := b } := by
      refine ⟨gB.zz, fun a u h f => ?_, fun s hs => (by rw [hg] at hs; cases hs), fun _ s' hs' => ⟨hm, hb0⟩⟩
      obtain ⟨h1, z1⟩ := gB.keep a u h f
      exact ⟨by show upd w2.H m _ a = _; rw [upd_ne (ne_of_none h hm)]; exact h1, z1⟩
    have R5 := (R.step g5 o5).setIm i (v := .ref m) (d := .hdl) (.hdl (K := C.k.K) (w := { w2 with H := upd w2.H m (.dK (stK (.ref c) (.ref b) 0)), g := some ⟨cells, great, 0⟩, m := m, c := c, r := b }) rfl)
    refine vr.run w0 { w2 with H := upd w2.H m (.dK (stK (.ref c) (.ref b) 0)), g := some ⟨cells, great, 0⟩, m := m, c := c, r := b } _ _ E R5 (PoS.lift k3 ⟨Same.refl _, fun s hs => (by rw [hg2] at hs; cases hs)⟩)
/-- k ** n, constants -/
def powI (i j : Int) : Option Int := if 0 ≤ j ∧ j ≤ 1000000 ∧ i.natAbs < 2 ^ 64 then some (i ^ j.toNat) else none
theorem de_pow {a b : Expr} {fa fb : Me D} {pos : Pos} (ha : DB C a fa) (hb : DB C b fb) : DE C (.BinOp a .Pow b pos) (eOp (arI powI) fa fb) :=
  dx_bin (lft_D _) (fun X h => op_pow) (r2_int fun i j k e => by
    unfold powI at e
    split at e
    · rename_i q; cases e; exact ⟨q, rfl⟩
    · cases e) ha hb
end
end Dl
set_option Elab.async false
set_option linter.all false
set_option maxRecDepth 100000
set_option maxHeartbeats 1000000
namespace Dl
open PySem PySem.Spec PyProof.Rows L2
abbrev ltF : D → D → G → Re D := cmI fun i j => decide (i < j)
abbrev leF : D → D → G → Re D := cmI fun i j => decide (i ≤ j)
abbrev gtF : D → D → G → Re D := cmI fun i j => decide (j < i)
abbrev geF : D → D → G → Re D := cmI fun i j => decide (j ≤ i)
def frzM (i : Nat) (f : Ms) : Ms := fun ρ g => f (frzS i ρ) g
def killM (vs : List Nat) (f : Ms) : Ms := fun ρ g => f (kill vs ρ) g
def sBad : Ms := fun _ _ => .bad
section
variable {C : Ctx} {st : Stmt} {sts : List Stmt} {f : Ms} {x : Str} {p : Pos}
theorem ds_frzM (i : Nat) (a : DS C st f) : DS C st (frzM i f) := ds_frz i a
theorem dss_killM (vs : List Nat) (a : DSs C sts f) : DSs C sts (killM vs f) := dss_kill vs a
theorem ds_bad : DS C st sBad := ⟨tNever, fun X h => ps_never, ⟨fun w0 w ρ σ E R k => k.elim⟩⟩
theorem dss_bad : DSs C sts sBad := ⟨tNever, fun X h => pss_never, ⟨fun w0 w ρ σ E R k => k.elim⟩⟩
theorem de_gint {n : Int} (h : ∃ t, C.k.mg x = some (.int n t)) (hg : glB C.sc x = true := by rfl) (hd : (x == ("__debug__" : Str)) = false := by decide +kernel) : DE C (.Name x p) (eC (.int n)) := by
  obtain ⟨t, h⟩ := h
  exact de_glob (v := .int n) h ⟨t, rfl⟩ (fun _ => .int n) hg hd
end
theorem bt_len : bootBuiltins "len" = some (.builtin "len") := by decide +kernel
theorem bt_int : bootBuiltins "int" = some (.type "int") := by decide +kernel
theorem bt_bool : bootBuiltins "bool" = some (.type "bool") := by decide +kernel
theorem bt_str : bootBuiltins "str" = some (.type "str") := by decide +kernel
theorem bt_tuple : bootBuiltins "tuple" = some (.type "tuple") := by decide +kernel
theorem bt_list : bootBuiltins "list" = some (.type "list") := by decide +kernel
theorem bt_sum : bootBuiltins "sum" = some (.builtin "sum") := by decide +kernel
theorem bt_max : bootBuiltins "max" = some (.builtin "max") := by decide +kernel
theorem bt_min : bootBuiltins "min" = some (.builtin "min") := by decide +kernel
theorem bt_all : bootBuiltins "all" = some (.builtin "all") := by decide +kernel
theorem bt_any : bootBuiltins "any" = some (.builtin "any") := by decide +kernel
theorem bt_repr : bootBuiltins "repr" = some (.builtin "repr") := by decide +kernel
/-- a def of the module, by its name -/
structure FnAt (k : Kt) (x : Str) (st : Stmt) (ps : List Str) : Prop where
  ex : ∃ (f : Addr) (fd : FuncData), Fun k.K x x st f fd ∧ k.mg x = some (.ref f) ∧ Binds k.K fd ps []
end Dl
set_option Elab.async false
set_option linter.all false
set_option maxRecDepth 100000
set_option maxHeartbeats 1000000
namespace Dl
open PySem PySem.Spec PyProof.Rows L2
/-! ### the law is called -/
/-- nothing is tracked but the script at a, whose record is o -/
def script1 (a : Addr) (o : Obj) (xs : List V) (on : Bool) : Hp := fun b => if on = true ∧ b = a then some (.frz o (.lst xs)) else none
theorem script1_inv {a b : Addr} {o : Obj} {xs : List V} {on : Bool} {u : HO} (h : script1 a o xs on b = some u) : b = a ∧ on = true ∧ u = .frz o (.lst xs) := by
  unfold script1 at h
  split at h
  · rename_i z
    exact ⟨z.2, z.1, (Option.some.inj h).symm⟩
  · cases h
theorem law_D {P : Program} {w : World} {K : PySem.W.Frag} {mg mb : Str → Option Value} {lv : Nat} {fa a : Addr} {s : Shared} {vs : List Value} {ns : List Int} {Φ : List D → G → Re D}
    (KX : K.In s.heap) (hns : s.heap.Ns mainGlobals mg) (hb : s.heap.Ns builtinsNs mb) (hbb : ∀ x : Str, x ≠ "__name__" → mb x = bootBuiltins x) (hlim : s.heap.NoLimit) (hg : s.gens = #[])
    (ha : s.heap.get? a = some { cls := .type "list", data := .seq vs.toArray }) (hi : IntsAre vs ns) (hl : ns.length ≤ sizeLine) (hr : Room lv callerA) (hfa : mg "law" = some (.ref fa))
    (F : ∀ base : Heap, K.In base → base.Ns mainGlobals mg → DFn P w ⟨K, mg⟩ base lv "law" 1 Φ) (law : ∃ g, Φ [.scr ns] none = .ok (.bl true) g) :
    codeAny (model P w) callerA (.call (.ref fa) ⟨[.ref a], []⟩) (fun r s' => r = .ok (.ret (.bool true)) ∧ OldK s.heap s'.heap ∧ s'.os = s.os ∧ AllBare s'.gens) s := by
  have rv := vals_ints hi
  have lenV := hi.length
  let ob : Obj := { cls := .type "list", data := .seq vs.toArray }
  let on : Bool := (K.lookup a).isNone
  let H := script1 a ob (ns.map V.int) on
  have seq : SqL K H a (ns.map V.int) := by
    cases hk : K.lookup a with
    | none => exact .inl (.inr ⟨ob, by show (if on = true ∧ a = a then _ else _) = _; rw [if_pos ⟨by show (K.lookup a).isNone = true; rw [hk]; rfl, rfl⟩]⟩)
    | some o =>
      have e := KX a o hk
      rw [ha] at e
      cases e
      exact .inr ⟨_, vs.toArray, _, hk, rfl, rfl, rfl, by rw [List.size_toArray, lenV]; exact hl, by simpa using rv⟩
  have ok : HOk P w H s.heap := fun b u h => by
    obtain ⟨e1, e2, e3⟩ := script1_inv h
    subst e1 e3
    exact ⟨ha, by rw [List.length_map]; exact hl, vs, _, rv, ha⟩
  have hid : ∀ {b : Addr} {o : Obj}, s.heap.get? b = some o → H b = none → (hidT s.heap H).get? b = some o := fun e n => hidT_get e n
  have dictNo : ∀ {b : Addr} {o : Obj} {es : Array DictEntry} {ep : Nat}, s.heap.get? b = some o → o.data = .dict es ep → H b = none := fun {b o es ep} e d => by
    cases q : H b with
    | none => rfl
    | some u =>
      obtain ⟨e1, _, _⟩ := script1_inv q
      subst e1
      rw [ha] at e
      cases e
      cases (show Data.seq vs.toArray _ = Data.dict es ep from d)
  have nsUp : ∀ {b : Addr} {m : Str → Option Value}, s.heap.Ns b m → (hidT s.heap H).Ns b m := fun {b m} h => by
    obtain ⟨o, es, ep, e, d, r⟩ := h
    exact ⟨o, es, ep, hid e (dictNo e d), d, r⟩
  have kUp : K.In (hidT s.heap H) := fun b o e => hid (KX b o e) (by
    cases q : H b with
    | none => rfl
    | some u =>
      obtain ⟨e1, e2, _⟩ := script1_inv q
      subst e1
      have e2 : (K.lookup b).isNone = true := e2
      rw [e] at e2
      cases e2)
  have mod : Mod K mg (hidT s.heap H) := ⟨kUp, nsUp hns, ⟨mb, nsUp hb, hbb⟩, let ⟨mc, h1, h2⟩ := hlim; ⟨mc, nsUp h1, h2⟩⟩
  have e0 : Env0 P w K mg (hidT s.heap H) callerA [] s H := ⟨rfl, mod, fun b o e => of_hidT e, Nat.le_of_eq (hidT_size _ _), trivial, fun b hb => absurd (show b ∈ ([] : List Addr) from hb) (by simp), ok, .of_eq hg⟩
  obtain ⟨f, fd, ps, fn, hm, hk, hbd, hps⟩ := (F _ kUp (nsUp hns)).ex
  have ef : f = fa := by
    have hm : mg "law" = some (.ref f) := hm
    rw [hfa] at hm
    cases hm
    rfl
  subst ef
  have bd := hbd s [.ref a] KX (by rw [hps]; rfl)
  rw [List.append_nil] at bd
  obtain ⟨g, law⟩ := law
  let wd : Wd := ⟨H, H, none, 0, 0, 0⟩
  have want : spD ⟨K, mg⟩ 1 Φ [.ref a] H (fun v _ => v = .bl true) (fun _ _ _ => False) := by
    refine ⟨wd, [.scr ns], rfl, ⟨Same.refl _, fun s h => by cases h⟩, .cons (.scr seq) .nil, rfl, ?_⟩
    unfold Pf
    rw [law]
    exact fun v w' t r => by cases r; rfl
  refine codeAny_mono (fn.run callerA [] s H ⟨[.ref a], []⟩ [.ref a] [.ref a] _ _ hr rfl e0 bd (.cons rfl .nil) want) fun r s' h => ?_
  match r, h with
  | .error e, h =>
    obtain ⟨_, _, _, _, _, _, _, _, _, _, _, _, z⟩ := h
    exact z.elim
  | .ok (.ret u), ⟨v, H', os, bare, un, hok', r', q⟩ =>
    have q : v = .bl true := q
    subst q
    obtain rfl : u = Value.bool true := r'
    refine ⟨rfl, OldK.of_keep fun b o e => ?_, os, bare⟩
    cases z : H b with
    | none => exact un.keep b o e z (by intro y; exact absurd (show b ∈ ([] : List Addr) from y) (by simp)) (by simp)
    | some u =>
      obtain ⟨e1, _, e3⟩ := script1_inv z
      subst e1 e3
      obtain ⟨e2, _⟩ := hok' b _ (un.frzs b ob _ z)
      rw [ha] at e
      cases e
      exact e2
/-- the goal that is left of the head, by the law's function; the script's numbers have at most 2 ^ 20 bits each -/
theorem walk_D {l : PySem.W.OpenLaw} {n lv : Nat} {q : Program} {loose : List Str} {XP : (Str → Option Value) → Heap → Prop} {YP : World → Heap → Prop} {d : DefRec} {K : Params → PySem.W.Frag} {Φ : List D → G → Re D}
    (hn : l.most = some n) (hn2 : n ≤ sizeLine) (hdf : d.params.defaults = []) (hnm : d.name = "law") (hr : Room lv callerA)
    (hY : ∀ (w : World) (h : Heap), YP w h → (K w.params).In h)
    (F : ∀ (w : World) (mg : Str → Option Value) (h : Heap), (K w.params).In h → h.Ns mainGlobals mg → ∀ base : Heap, (K w.params).In base → base.Ns mainGlobals mg → DFn l.prog w ⟨K w.params, mg⟩ base lv "law" 1 Φ)
    (law : ∀ ns : List Int, ns.length ≤ n → (∀ k ∈ ns, Builtin.Int.intBits k ≤ 1048576) → ∃ g, Φ [.scr ns] none = .ok (.bl true) g) :
    PySem.W.WalkO q loose XP YP l.row.toRowW d [] (fun f vs => PySem.call f vs) := by
  refine Att.attach_callB hn hdf fun w s₀ s₁ mg mb fa o pm cd doc a vs ns G Y ho hd hcd hmg hobj hints hlen hbits hg => ?_
  have KX := hY w _ Y
  rw [hnm] at hmg
  exact law_D KX G.T.g G.T.b G.T.builtins G.T.nolimit hg hobj hints (Nat.le_trans hlen hn2) hr hmg (F w mg _ KX G.T.g) (law ns hlen hbits)
end Dl
set_option Elab.async false
set_option linter.all false
set_option maxRecDepth 100000
set_option maxHeartbeats 4000000
namespace Dl
open PySem PySem.Spec PyProof.Rows L2 NdefX
/-! ### ValueError.__init__ bound to an exception, called -/
theorem call_vw {prog : Program} {w : World} {A : Around} {E : Value → Shared → Prop} {h : Heap} {g : Array GenState} {d : Drawn} {t : Nat} {os : OsState} {nm q : Str} {C N u e t0 : Addr} {bs bm : List Value} {hdct : Bool} {sn : List Str} {sub : List Value} {ab : Bool} {col : Option Bool} {dd : Option Addr} {k0 k1 k2 k3 k5 : Option Value} {rest : List Value} {Q : Value → Shared → Prop}
    (hC : h.get? C = some (excClassObj nm q C N bs bm hdct sn sub ab col dd k0 k1 k2 k3 k5 "ValueError.__new__")) (he : h.get? e = some ({ cls := .ref C, dict := none, data := .fields #[.ref t0, .none, .none, .none, .bool false, .none] } : Obj)) (hu : h.get? u = some (PySem.W.kxs_mw "ValueError.__init__" e)) (hrest : rest.length ≤ sizeLine)
    (hq : ∀ h' t1, (∀ b o, b ≠ e → h.get? b = some o → h'.get? b = some o) → h'.get? e = some ({ cls := .ref C, dict := none, data := .fields #[.ref t1, .none, .none, .none, .bool false, .none] } : Obj) → Q .none ⟨h', g, d, t, os⟩) :
    wpAny (model prog w) A (call (.ref u) rest) Q E ⟨h, g, d, t, os⟩ := by
  refine wpAny_call (codeAny_of_tree ?_)
  show wpAny _ A.in1 (callAny (.ref u) ⟨rest, []⟩) _ _ _
  simp only [callAny]
  refine wpAny_bind (wpAny_load hu ?_)
  simp only [PySem.W.kxs_mw, show (Value.type "method-wrapper" == Value.type "method" || Value.type "method-wrapper" == Value.type "builtin_function_or_method" || Value.type "method-wrapper" == Value.type "method-wrapper") = true by decide, if_true]
  refine PySem.W.KFB.if_so (by decide) ?_
  refine wpAny_bind (PySem.W.check_bound_init F.excBase_ValueError.toExcCallFacts hC he rfl ?_)
  refine wpAny_bind (wpAny_pure (wpAny_pure ?_))
  refine ⟨plainId_quiet F.excBase_ValueError.init.plain _, codeAny_builtin F.excBase_ValueError.initEntry ?_⟩
  exact PySem.W.exc_init_tree (cls := .ref C) (t0 := t0) (dv := none) (c2 := .none) (c3 := .none) (b4 := .bool false) he hrest fun h' k e' t' => hq h' h.objs.size k e'
/-- what the written part says of a class's __init__ whose first statement is super().__init__('..') -/
structure SupC (P : Program) (K : PySem.W.Frag) (mg : Str → Option Value) (C fI : Addr) (qual : Str) (params : Arguments) (body : List Stmt) (scope : Scope) (fd : FuncData) (cc cda : Addr) : Prop where
  fn : ∃ (dV kV doc pm ct : Value) (an : Option Addr) (oc : Value) (od : Option Addr) (osl : Array (Option Value)), fd = PySem.W.ksFn "__init__" qual params body scope dV kV doc pm an (.ref cda) ct cc ∧ K.lookup fI = some ⟨oc, od, .func fd, osl⟩
  code : PySem.W.codeIn K (.ref cda) qual = true
  file : ∃ (ccl : Value) (cdd : Option Addr) (vs : Array Value) (ccs : Array (Option Value)) (file : Str) (tf : Tok), K.lookup cda = some ⟨ccl, cdd, .fields vs, ccs⟩ ∧ vs[2]? = some (.str file tf) ∧ ((P.main.file : Str) == file) = true
  cell : ∃ (cl : Value) (cld : Option Addr) (csl : Array (Option Value)), K.lookup cc = some ⟨cl, cld, .cell (some (.ref C)), csl⟩
  sub : PySem.W.mroIn K C (.ref C) = some true
  subV : PySem.W.subIn K (.ref C) (.type "ValueError") = some true
  sup : PySem.W.ks_superIn K C C "__init__" = some (some (.builtin "ValueError.__init__"))
  opq : PySem.W.nsIn K cStatics "thirdparty.any" = some none
  nos : mg "super" = none
  top : (P.main.scope.names.lookup ("super" : Str)).isSome = false
section
variable {P : Program} {w : World} {K : PySem.W.Frag} {mg : Str → Option Value} {base : Heap} {C fI cc cda : Addr} {qual : Str} {params : Arguments} {scope : Scope} {fd : FuncData} {N fs : List Str} {rest : List Stmt} {p0 p1 p2 p3 p4 p5 : Pos} {tx : Str} {jc : Nat} {sp : Sp} {k : Nat} {ar : Arg}
abbrev supSt (p0 p1 p2 p3 p4 p5 : Pos) (tx : Str) (jc : Nat) : Stmt := .Expr (.Call (.Attribute (.Call (.Name "super" p0) [] [] p1) "__init__" p2) [.Constant (.str tx) jc p3] [] p4) p5
theorem boot_super : bootBuiltins "super" = some (.type "super") := by decide +kernel
theorem sup_fn (T : SupC P K mg C fI qual params (supSt p0 p1 p2 p3 p4 p5 tx jc :: rest) scope fd cc cda) (S : NScope N (("self" : Str) :: fs) ["__class__"] scope)
    (hks : scope.names.lookup ("super" : Str) = some .globalImplicit) (har : (params.posonlyargs ++ params.args).head? = some ar) (ha : ar.arg = "self")
    (hev : ∀ env : PySem.Env, ∃ pl : Sem Bool, eval (.Call (.Attribute (.Call (.Name "super" p0) [] [] p1) "__init__" p2) [.Constant (.str tx) jc p3] [] p4) env = (do
      let ov ← attributeBase (.Call (.Name "super" p0) [] [] p1) "__init__" env (eval (.Call (.Name "super" p0) [] [] p1) env)
      standAt p2.atName
      let (f, first) ← holding [ov] (getMethod ov "__init__" pl)
      callWith p4 f first (backTo p4 (starEach [.Constant (.str tx) jc p3] env)) []))
    (len : ∀ vs H Q E, sp vs H Q E → vs.length = (("self" : Str) :: fs).length) (hsp : ∀ vs H Q E, sp vs H Q E → ∃ a ys, vs = .ref a :: ys ∧ OexC K C ∧ H a = some (exo a C none))
    (body : ∀ (F : NF) (A : Around) (outer : List PySem.Env) (s : Shared) (H : Hp) (vs : List V) (Q : VK) (E : XK), F.scope = scope → sp vs H Q E →
      ∃ t, PSs (ncx (L2.CX P w) P w K mg base N F fI A outer s H E) rest t ∧ t { nx := fun _ H' => Q .non H', rt := Q } (startF N vs [none]) H) :
    FnOk P w K mg base (L2.CX P w) (k + 1) fI fd (("self" : Str) :: fs) sp := by
  obtain ⟨dV, kV, doc, pm, ct, an, oc, od, osl, rfl, lk⟩ := T.fn
  obtain ⟨ccl, cdd, cvs, ccs, file, tf, hcode, hvs, hfile⟩ := T.file
  obtain ⟨cl, cld, csl, hcell⟩ := T.cell
  refine ⟨len, fun A outer s H args us vs Q E hr e0 hb r want => ?_⟩
  have KX : K.In s.heap := e0.mod.kin.keeps fun b o e => (e0.bs b o e).1
  have lim : s.heap.NoLimit := e0.mod.nolimit.keeps fun b o e => (e0.bs b o e).1
  have hl := len _ _ _ _ want
  refine ks_codeAny_call_defAt (fd := PySem.W.ksFn "__init__" qual params (supSt p0 p1 p2 p3 p4 p5 tx jc :: rest) scope dV kV doc pm an (.ref cda) ct cc) (body := supSt p0 p1 p2 p3 p4 p5 tx jc :: rest) (binds := (("self" : Str) :: fs).zip us) hr.depth (KX _ _ lk) rfl lim (PySem.W.codeRec_of KX T.code) rfl hb S.nocell (fun ⟨n, _⟩ hy => S.par n (List.of_mem_zip hy).1) (fun h₁ hns kp => ?_) S.co S.gen S.kind
  let F : NF := ⟨"__init__", qual, params, supSt p0 p1 p2 p3 p4 p5 tx jc :: rest, scope, [("__class__", cc)], cda⟩
  let X : Cx := ncx (L2.CX P w) P w K mg base N F fI A outer s H E
  have cellB : H cc = none := by
    cases q : K.lookup cc with
    | none => rw [q] at hcell; cases hcell
    | some o => exact (e0.bs _ _ (e0.mod.kin _ _ q)).2
  have CA : CellsAt F.cl ["__class__"] [none] s.heap H := by
    refine ⟨rfl, fun y c e => ?_, fun x y c e1 e2 => ?_, fun i y hy => ?_⟩
    · have e : List.lookup y [(("__class__" : Str), cc)] = some c := e
      simp only [List.lookup] at e
      split at e
      · cases e
        exact ⟨cellB, _, _, KX _ _ hcell, rfl⟩
      · cases e
    · have e1 : List.lookup x [(("__class__" : Str), cc)] = some c := e1
      have e2 : List.lookup y [(("__class__" : Str), cc)] = some c := e2
      simp only [List.lookup] at e1 e2
      split at e1
      · split at e2
        · rename_i z1 _ z2
          rw [beq_iff_eq] at z1 z2
          rw [z1, z2]
        · cases e2
      · cases e1
    · match i, hy with
      | 0, hy =>
        cases hy
        exact ⟨cc, by show List.lookup _ [(("__class__" : Str), cc)] = _; simp [List.lookup], fun v z => by cases z⟩
      | i + 1, hy => simp at hy
  have I : Inv X [] (startF N vs [none]) H { s with heap := h₁, toks := s.toks + ((("self" : Str) :: fs).zip us).length } := inv_startN S hr.hd e0 hl r CA hns kp
  obtain ⟨t, ok, got⟩ := body F A outer s H vs Q E rfl want
  obtain ⟨a, ys, rfl, Tx, ea⟩ := hsp _ _ _ _ want
  cases r with
  | @cons _ u0 _ ur ru rr =>
  obtain rfl : u0 = Value.ref a := ru
  have hself : ((("self" : Str) :: fs).zip (Value.ref a :: ur)).reverse.lookup ("self" : Str) = some (Value.ref a) := by
    refine zip_look (i := 0) ?_ rfl rfl
    have q := S.nd.sublist (List.take_sublist ((("self" : Str) :: fs).length + 1) N)
    have pre := S.pre
    have e : ([("__class__" : Str)]).length = 1 := rfl
    rw [e] at pre
    rw [pre] at q
    exact (List.nodup_append.mp q).1
  generalize hs1 : ({ s with heap := h₁, toks := s.toks + ((("self" : Str) :: fs).zip (Value.ref a :: ur)).length } : Shared) = s1 at I
  have fin : ∀ s', Inv X [] (startF N (V.ref a :: ys) [none]) H s' → wpAny (model P w) X.A (execs rest X.env) (fun f s' => CR (L2.CX P w) outer P w H s Q E (.ok (.ret (match f with | .ret v => v | _ => .none))) s') X.xe s' := fun s' J => by
    refine wpAny_mono (ok.run [] s' _ H _ J got) (fun fl s' hs => ?_) fun e s' hs => hs
    cases fl with
    | ret u =>
      obtain ⟨v, σ', H', J, rv, q⟩ := hs
      exact ⟨v, H', J.os, J.bare, J.base, J.hok, rv, q⟩
    | next =>
      obtain ⟨σ', H', J, q⟩ := hs
      exact ⟨.non, H', J.os, J.bare, J.base, J.hok, rfl, q⟩
    | brk =>
      obtain ⟨_, _, _, q⟩ := hs
      exact False.elim q
    | cont =>
      obtain ⟨_, _, _, q⟩ := hs
      exact False.elim q
  show _root_.PySem.wpAt (model P w) X.A (.func (supSt p0 p1 p2 p3 p4 p5 tx jc :: rest) X.env) (execs (supSt p0 p1 p2 p3 p4 p5 tx jc :: rest) X.env) (fun f s' => CR (L2.CX P w) outer P w H s Q E (.ok (.ret (match f with | .ret v => v | _ => .none))) s') X.xe _
  obtain ⟨pl, hev⟩ := hev X.env
  refine ks_wpAt_execs_cons (ks_wpAt_Expr_any (ks_wpAt_MethodCall (pl := pl) ?_ hev) I.quiet)
  show _root_.PySem.wpAt (model P w) X.A (.func (supSt p0 p1 p2 p3 p4 p5 tx jc :: rest) X.env) _ (fun ov s₁ => wpAny (model P w) X.A _ (fun fx s₂ => wpAny (model P w) X.A _ (fun _ s' => _root_.PySem.wpAt (model P w) X.A (.func (supSt p0 p1 p2 p3 p4 p5 tx jc :: rest) X.env) (execs rest X.env) _ X.xe s') X.xe s₂) X.xe s₁) X.xe _
  have KX1 : K.In s1.heap := I.kIn
  obtain ⟨t1, ha1⟩ := exo_at I.hok ea
  obtain ⟨nm, qn, N', bs, bm, sn, sub, ab, col, dd, k0, k1, k2, k3, k5, hC, hbm⟩ := Tx.cls
  have hcl : ∃ oD cdD, s1.heap.get? C = some oD ∧ oD.data = .cls cdD ∧ PySem.W.clsIn K C = some cdD := by
    refine ⟨_, _, KX1 _ _ hC, rfl, ?_⟩
    unfold PySem.W.clsIn
    rw [hC]
  obtain ⟨oD, cdD, hD1, hD2, hD3⟩ := hcl
  obtain ⟨mb, hb1, hb2⟩ := I.mod.blt
  have hns1 : s1.heap.Ns X.env.locals fun y => ((("self" : Str) :: fs).zip (Value.ref a :: ur)).reverse.lookup y := by
    rw [← hs1]
    exact hns
  refine ks_wpAt_super_base (env := X.env) (f := fI) (cc := cda) hks (S.frk _ List.mem_cons_self) rfl rfl (KX1 _ _ lk) rfl har rfl (KX1 _ _ hcode) rfl hvs hfile T.top ?_
  refine PySem.W.ks_loadName_global S.kind hks (PySem.Calls.loadGlobal_builtin (env := X.env) (I.mod.glob.keeps I.bk) T.nos (hb1.keeps I.bk) ((hb2 _ (by decide +kernel)).trans boot_super) ⟨rfl, ?_⟩)
  refine wpAny_loadName_free S.kind (S.frk _ List.mem_cons_self) (c := cc) (by show List.lookup _ [(("__class__" : Str), cc)] = _; simp [List.lookup]) ⟨_, KX1 _ _ hcell, rfl⟩ ?_
  rw [ha]
  refine wpAny_loadName_local S.kind (S.par _ List.mem_cons_self) hns1 hself ?_
  obtain ⟨hp, g, d, tk, os⟩ := s1
  refine ks_wpAny_isType_cls hD1 hD2 ⟨rfl, ?_⟩
  refine ks_wpAny_call_super hD1 hD2 ha1 rfl (fun c e => by cases e) (PySem.W.looks_mroIn KX1 T.sub) (fun h' hso kk => ?_)
  have I2 : Inv X [] (startF N (V.ref a :: ys) [none]) H ⟨h', g, d, tk, os⟩ := I.kept (t' := tk) kk
  have IA : PySem.W.InstAt h' a { cls := .ref C, dict := none, data := .fields #[.ref t1, .none, .none, .none, .bool false, .none] } C none := ⟨kk _ _ ha1, rfl, rfl, trivial⟩
  have hsup := T.sup
  unfold PySem.W.ks_superIn at hsup
  rw [hD3] at hsup
  refine PySem.W.kxs_getMethod PySem.W.kxs_ValueError hso (PySem.W.looks_opaque I2.kIn T.opq) (l₀ := cdD.mro) (fun A Q E s k q => wpAny_bind ((PySem.W.looks_clsIn I2.kIn hD3) A _ E s k (wpAny_pure q))) rfl I2.kIn hsup (IA.type.andThen (PySem.W.looks_subIn I2.kIn T.subV)) (PySem.W.ks_ne I2.kIn IA hD3) rfl ?_
  have kk3 : ∀ b o, h'.get? b = some o → (h'.push (PySem.W.kxs_mw "ValueError.__init__" a)).get? b = some o := fun b o e => Heap.get?_push_of_some _ e
  have hu : (h'.push (PySem.W.kxs_mw "ValueError.__init__" a)).get? h'.objs.size = some (PySem.W.kxs_mw "ValueError.__init__" a) := Heap.get?_push_size _ rfl
  have I3 : Inv X [] (startF N (V.ref a :: ys) [none]) H ⟨h'.push (PySem.W.kxs_mw "ValueError.__init__" a), g, d, tk + 1, os⟩ := I2.kept (t' := tk + 1) kk3
  have I4 : Inv X [(h'.objs.size, PySem.W.kxs_mw "ValueError.__init__" a)] (startF N (V.ref a :: ys) [none]) H ⟨h'.push (PySem.W.kxs_mw "ValueError.__init__" a), g, d, tk + 1, os⟩ := I3.pins_of fun p hp => by
    cases List.mem_singleton.mp hp
    exact ⟨hu, I2.hok.fresh (Nat.le_refl _), Ne.symm (Nat.ne_of_lt I2.lt), I2.nofs (Nat.le_refl _), fun v z => by cases z⟩
  have pa : PA X [.Constant (.str tx) jc p3] (tCons (tC (.str tx)) tNil) := pa_cons pe_str pa_nil
  show wpAny (model P w) X.A (callWith p4 (.ref h'.objs.size) [] (backTo p4 (starEach [.Constant (.str tx) jc p3] X.env)) []) _ X.xe _
  refine PySem.W.kxs_callWith (i := "ValueError.__init__") (x := a) rfl (PySem.Calls.evalArgs_plain ?_)
  refine thn (pa.run p4 _ _ _ H (fun vs H1 => vs.length ≤ 1000 ∧ H1 = H) I4 ⟨by show 1 ≤ 1000; omega, rfl⟩) fun us s5 ⟨vs, H1, I5, rv, hlen, eH⟩ => ?_
  subst eH
  obtain ⟨h5, g5, d5, tk5, os5⟩ := s5
  obtain ⟨hu5, _⟩ := I5.pin (h'.objs.size, PySem.W.kxs_mw "ValueError.__init__" a) (List.mem_append_right _ List.mem_cons_self)
  refine ⟨hu5, ?_⟩
  obtain ⟨t5, ha5⟩ := exo_at I5.hok ea
  refine call_vw (I5.kIn _ _ hC) ha5 hu5 (by show us.length ≤ sizeLine; rw [← Paired.length rv, sizeLine_eq]; omega) fun h6 t6 k6 hx6 => ?_
  have J := I5.write (t' := tk5) (x := a) (e := a) (o := exo a C none) (by rw [ea]; exact True.intro) (.inl rfl) k6 ⟨_, hx6⟩ (exo_ok hx6)
  have eu : upd H1 a (exo a C none) = H1 := by
    funext b
    by_cases hb : b = a
    · rw [hb, upd_same, ea]
    · rw [upd_ne hb]
  rw [eu] at J
  exact wpAt_of_wpAny (fin _ (J.pins_of fun p hp => by cases hp))
end
end Dl
set_option Elab.async false
set_option linter.all false
set_option maxRecDepth 100000
set_option maxHeartbeats 2000000
namespace Dl
open PySem PySem.Spec PyProof.Rows L2 NdefX
/-! ### an own error class with fields, each taken from an argument of its __init__ -/
def spInit (K : PySem.W.Frag) (C : Addr) (fs : List Str) : Sp := fun vs H Q E => ∃ (a : Addr) (ys : List V), vs = .ref a :: ys ∧ ys.length = fs.length ∧ OexC K C ∧ (∀ f ∈ fs, PySem.W.findIn K (.ref C) f = some none) ∧ H a = some (exo a C none) ∧
  ∀ dx, H dx = none → dx ≠ a → Q .non (upd (upd H dx (exd dx (fs.zip ys).reverse)) a (exo a C (some dx)))
section
variable {P : Program} {w : World} {K : PySem.W.Frag} {mg : Str → Option Value} {base : Heap} {C fI cc cda : Addr} {qual : Str} {params : Arguments} {scope : Scope} {fd : FuncData} {p0 p1 p2 p3 p4 p5 q1 q2 q3 q4 r1 r2 r3 r4 : Pos} {tx : Str} {jc : Nat} {k : Nat} {ar : Arg} {f g : Str}
abbrev asgSt (f : Str) (q1 q2 q3 q4 : Pos) : Stmt := .Assign [.Attribute (.Name "self" q1) f q2] (.Name f q3) q4
theorem vis_ncx {N : List Str} {F : NF} {A : Around} {outer : List PySem.Env} {s : Shared} {H : Hp} {E : XK} {x : Str} (hF : F.scope = scope) (hv : visB scope x = true) : Vis (ncx (L2.CX P w) P w K mg base N F fI A outer s H E).env.scope x := by
  show Vis F.scope x
  rw [hF]
  exact vis_of hv
theorem init1 (T : SupC P K mg C fI qual params [supSt p0 p1 p2 p3 p4 p5 tx jc, asgSt f q1 q2 q3 q4] scope fd cc cda) (S : NScope ["self", f, "__class__"] ["self", f] ["__class__"] scope)
    (hks : scope.names.lookup ("super" : Str) = some .globalImplicit) (har : (params.posonlyargs ++ params.args).head? = some ar) (ha : ar.arg = "self")
    (hev : ∀ env : PySem.Env, ∃ pl : Sem Bool, eval (.Call (.Attribute (.Call (.Name "super" p0) [] [] p1) "__init__" p2) [.Constant (.str tx) jc p3] [] p4) env = (do
      let ov ← attributeBase (.Call (.Name "super" p0) [] [] p1) "__init__" env (eval (.Call (.Name "super" p0) [] [] p1) env)
      standAt p2.atName
      let (f, first) ← holding [ov] (getMethod ov "__init__" pl)
      callWith p4 f first (backTo p4 (starEach [.Constant (.str tx) jc p3] env)) []))
    (vs_ : visB scope "self" = true) (vf : visB scope f = true) (nd : (f == ("__debug__" : Str)) = false) (nc : (f == ("__classdict__" : Str)) = false)
    (hsw : ∀ env, swapsWith (.Name f q3) (some (.Attribute (.Name "self" q1) f q2)) q4.line env = pure false) :
    FnOk P w K mg base (L2.CX P w) (k + 1) fI fd ["self", f] (spInit K C [f]) := by
  refine sup_fn T S hks har ha hev (fun vs H Q E ⟨a, ys, e, l, _⟩ => by rw [e]; show ys.length + 1 = 2; rw [l]; rfl) (fun vs H Q E ⟨a, ys, e, l, T, _, h, _⟩ => ⟨a, ys, e, T, h⟩) fun F A outer s H vs Q E hF ⟨a, ys, e, l, Tx, hno, ea, q⟩ => ?_
  match ys, l with
  | [y], _ =>
    subst e
    refine ⟨_, pss_one (ps_ost (pe_var (i := 0) rfl (vis_ncx hF vs_) (by decide) (by decide)) (pe_var (i := 1) rfl (vis_ncx hF vf) nd nc) (hsw _)), ?_⟩
    exact ⟨y, rfl, .ref a, rfl, a, C, rfl, Tx, hno _ List.mem_cons_self, .inl ⟨ea, fun dx n ne => q dx n ne⟩⟩
theorem init2 (T : SupC P K mg C fI qual params [supSt p0 p1 p2 p3 p4 p5 tx jc, asgSt f q1 q2 q3 q4, asgSt g r1 r2 r3 r4] scope fd cc cda) (S : NScope ["self", f, g, "__class__"] ["self", f, g] ["__class__"] scope)
    (hks : scope.names.lookup ("super" : Str) = some .globalImplicit) (har : (params.posonlyargs ++ params.args).head? = some ar) (ha : ar.arg = "self")
    (hev : ∀ env : PySem.Env, ∃ pl : Sem Bool, eval (.Call (.Attribute (.Call (.Name "super" p0) [] [] p1) "__init__" p2) [.Constant (.str tx) jc p3] [] p4) env = (do
      let ov ← attributeBase (.Call (.Name "super" p0) [] [] p1) "__init__" env (eval (.Call (.Name "super" p0) [] [] p1) env)
      standAt p2.atName
      let (f, first) ← holding [ov] (getMethod ov "__init__" pl)
      callWith p4 f first (backTo p4 (starEach [.Constant (.str tx) jc p3] env)) []))
    (vs_ : visB scope "self" = true) (vf : visB scope f = true) (nd : (f == ("__debug__" : Str)) = false) (nc : (f == ("__classdict__" : Str)) = false) (vg : visB scope g = true) (ndg : (g == ("__debug__" : Str)) = false) (ncg : (g == ("__classdict__" : Str)) = false)
    (hsw : ∀ env, swapsWith (.Name f q3) (some (.Attribute (.Name "self" q1) f q2)) q4.line env = pure false) (hsw2 : ∀ env, swapsWith (.Name g r3) (some (.Attribute (.Name "self" r1) g r2)) r4.line env = pure false) :
    FnOk P w K mg base (L2.CX P w) (k + 1) fI fd ["self", f, g] (spInit K C [f, g]) := by
  refine sup_fn T S hks har ha hev (fun vs H Q E ⟨a, ys, e, l, _⟩ => by rw [e]; show ys.length + 1 = 3; rw [l]; rfl) (fun vs H Q E ⟨a, ys, e, l, T, _, h, _⟩ => ⟨a, ys, e, T, h⟩) fun F A outer s H vs Q E hF ⟨a, ys, e, l, Tx, hno, ea, q⟩ => ?_
  match ys, l with
  | [y, z], _ =>
    subst e
    refine ⟨_, pss_cons (ps_ost (pe_var (i := 0) rfl (vis_ncx hF vs_) (by decide) (by decide)) (pe_var (i := 1) rfl (vis_ncx hF vf) nd nc) (hsw _)) (pss_one (ps_ost (pe_var (i := 0) rfl (vis_ncx hF vs_) (by decide) (by decide)) (pe_var (i := 2) rfl (vis_ncx hF vg) ndg ncg) (hsw2 _))), ?_⟩
    refine ⟨y, rfl, .ref a, rfl, a, C, rfl, Tx, hno _ List.mem_cons_self, .inl ⟨ea, fun dx n ne => ?_⟩⟩
    have ed : upd (upd H dx (exd dx [(f, y)])) a (exo a C (some dx)) dx = some (exd dx [(f, y)]) := by rw [upd_ne ne, upd_same]
    refine ⟨z, rfl, .ref a, rfl, a, C, rfl, Tx, hno _ (List.mem_cons_of_mem _ List.mem_cons_self), .inr ⟨dx, _, upd_same, ed, by show 1 ≤ 900; omega, ?_⟩⟩
    have q := q dx n ne
    have eu : upd (upd (upd H dx (exd dx [(f, y)])) a (exo a C (some dx))) dx (exd dx [(g, z), (f, y)]) = upd (upd H dx (exd dx (([f, g] : List Str).zip [y, z]).reverse)) a (exo a C (some dx)) := by
      funext b
      by_cases hb : b = dx
      · subst hb
        rw [upd_same, upd_ne ne, upd_same]
        rfl
      · rw [upd_ne hb]
        by_cases hc : b = a
        · subst hc
          rw [upd_same, upd_same]
        · rw [upd_ne hc, upd_ne hb, upd_ne hc, upd_ne hb]
    show Q V.non (upd (upd (upd H dx (exd dx [(f, y)])) a (exo a C (some dx))) dx (exd dx [(g, z), (f, y)]))
    rw [eu]
    exact q
end
/-- the own error c with the fields fs -/
structure ExcAt (P : Program) (w : World) (k : Kt) (c : Str) (fs : List Str) : Prop where
  ex : ∃ (C fI : Addr) (fd : FuncData), k.mg c = some (.ref C) ∧ OexC k.K C ∧ PySem.W.findIn k.K (.ref C) "__init__" = some (some (.ref fI)) ∧ PySem.W.typeIn k.K (.ref fI) = some (.type "function") ∧
    (∀ base, FnOk P w k.K k.mg base (L2.CX P w) 1 fI fd ("self" :: fs) (spInit k.K C fs)) ∧ Binds k.K fd ("self" :: fs) [] ∧ XfC k.K C ∧ (∀ f ∈ fs, PySem.W.findIn k.K (.ref C) f = some none) ∧ PySem.W.exmOne k.K (.ref C) (.ref C) = some true
/-! ### raise C(e, ..) -/
def sRaise (c : Str) (fs : List Str) (as : Me (List D)) : Ms := fun ρ g => (as ρ g).bindS ρ fun l g => if l.length = fs.length ∧ l.length ≤ 1000 then .ex c (fs.zip l).reverse ρ g else .bad
theorem RvL.rev2 {K : PySem.W.Frag} {w : Wd} {fs : List Str} {ys : List V} {l : List D} (r : RvL K w ys l) (h : l.length = fs.length) : ((fs.zip ys).reverse.map (·.1)) = ((fs.zip l).reverse.map (·.1)) ∧ RvL K w ((fs.zip ys).reverse.map (·.2)) ((fs.zip l).reverse.map (·.2)) := by
  have hl := r.length
  rw [List.map_reverse, List.map_reverse, List.map_reverse, List.map_reverse, List.map_fst_zip (by omega), List.map_fst_zip (by omega), List.map_snd_zip (by omega), List.map_snd_zip (by omega)]
  exact ⟨rfl, r.reverse⟩
section
variable {C : Ctx} {c : Str} {fs : List Str} {e : Expr} {es : List Expr} {as : Me (List D)} {p pos pos' : Pos}
theorem ds_raise (E : ExcAt C.P C.w C.k c fs) (ha : DA C (e :: es) as) (hl : 2 ≤ C.lv := by first | decide | (dsimp only [Ctx.blk]; decide)) (hg : glB C.sc c = true := by rfl) (hdb : (c == ("__debug__" : Str)) = false := by decide +kernel) (ns : NoStar e es := by intro _; rfl) (hpl : ∀ env, (backTo pos (starEach es env)).any (·.1) = false := by intro _; rfl) :
    DS C (.Raise (some (.Call (.Name c p) (e :: es) [] pos)) none pos') (sRaise c fs as) := by
  obtain ⟨t, q, v⟩ := ha
  obtain ⟨Ca, fI, fd, hm, Tx, iC, tI, F1, hb, xf, hno, te⟩ := E.ex
  refine ⟨_, fun X h => ps_raise h.calm h.tk (pmk_oex (CX := L2.CX C.P C.w) (sp := spInit C.k.K Ca fs) (k := 1) (fd := fd) (ps := "self" :: fs) (ds := []) (dvs := []) (by rw [h.K]; exact Tx) (by rw [h.K]; exact iC) (by rw [h.K]; exact tI) (by rw [h.P, h.w, h.K, h.mg, h.base]; exact F1 _) (h.room.mono hl) (by rw [h.K]; exact hb) .nil (fun pins σ H s e s' I ⟨_, _, _, _, _, _, _, _, _, _, _, _, z⟩ => z.elim) (h.gl hg) (by rw [h.mg]; exact hm) (q X h) hdb (ns _) (hpl _)), ⟨fun w0 w ρ σ Ed R k => ?_⟩⟩
  refine v.run w0 w ρ σ _ R (PoS.bind R k fun l us w1 e1 g1 o1 R1 r1 k1 => ?_)
  have r1 : RvL C.k.K w1 us l := r1
  split at k1
  · rename_i z
    refine ⟨by rw [r1.length]; exact z.2, fun a na => ⟨a, us, by rw [List.append_nil], by rw [r1.length, z.1], Tx, hno, upd_same, fun dx n ne => ?_⟩⟩
    have nd : w1.H dx = none := by rw [upd_ne ne] at n; exact n
    refine ⟨rfl, dx, (fs.zip us).reverse, upd_same, by rw [upd_ne ne, upd_same], nd, ?_⟩
    have eu : upd (del (upd (upd (upd w1.H a (exo a Ca none)) dx (exd dx (fs.zip us).reverse)) a (exo a Ca (some dx))) a) dx (.xd (fs.zip us).reverse) = upd w1.H dx (.xd (fs.zip us).reverse) := by
      funext b
      by_cases hb : b = dx
      · rw [hb, upd_same, upd_same]
      · rw [upd_ne hb, upd_ne hb]
        by_cases hc : b = a
        · rw [hc, del_same, na]
        · rw [del_ne hc, upd_ne hc, upd_ne hb, upd_ne hc]
    rw [eu]
    obtain ⟨m1, m2⟩ := r1.rev2 z.1
    exact k1 { w1 with H := upd w1.H dx (.xd (fs.zip us).reverse) } σ (.ref Ca) (some dx) .of_H rfl (R1.step (.new nd) (o1.new nd)) ⟨Ca, hm, rfl, dx, _, rfl, upd_same, m1, m2.mono .of_H⟩
  · exact k1.elim
end
/-! ### try: .. except c as n: x = (.., n.f, ..) -/
inductive It where
  | cst (d : D)
  | fld (f : Str)
def itF (fs : List (Str × D)) : It → Option D
  | .cst d => some d
  | .fld f => fs.lookup f
def itsF (fs : List (Str × D)) : List It → Option (List D)
  | [] => some []
  | i :: r => match itF fs i, itsF fs r with
    | some d, some l => some (d :: l)
    | _, _ => none
/-- an expression of an except suite: i the slot of the exception's name -/
def SE (C : Ctx) (c : Str) (i : Nat) (e : Expr) (it : It) : Prop := ∀ (a : Addr) (cls : Value) (d : Option Addr), ∃ t : TE, (∀ X, CtxOk C X → ∀ oe pn, Zc cls d oe → (∃ vs, oe.data = .fields vs) → PE (X.suite a ((a, oe) :: pn)) e t) ∧
  ∀ (w : Wd) (σ : Sg) (Q : VK) (fs : List (Str × D)) (dv : D), Xr C.k w cls d c fs → σ[i]? = some (some (.ref a)) → itF fs it = some dv → (∀ v, Rv C.k.K w v dv → Q v w.H) → t σ w.H Q
def SA (C : Ctx) (c : Str) (i : Nat) (es : List Expr) (its : List It) : Prop := ∀ (a : Addr) (cls : Value) (d : Option Addr), ∃ t : TA, (∀ X, CtxOk C X → ∀ oe pn, Zc cls d oe → (∃ vs, oe.data = .fields vs) → PA (X.suite a ((a, oe) :: pn)) es t) ∧
  ∀ (w : Wd) (σ : Sg) (Q : List V → Hp → Prop) (fs : List (Str × D)) (l : List D), Xr C.k w cls d c fs → σ[i]? = some (some (.ref a)) → itsF fs its = some l → (∀ vs, RvL C.k.K w vs l → Q vs w.H) → t σ w.H Q
section
variable {C : Ctx} {c : Str} {i : Nat} {e : Expr} {es : List Expr} {p pos : Pos} {it : It} {its : List It} {gs : List Str}
theorem se_c {v : V} {d : D} (hp : ∀ X : Cx, PE X e (tC v)) (r : ∀ w, Rv C.k.K w v d) : SE C c i e (.cst d) := fun a cls dd =>
  ⟨tC v, fun X h oe pn z f => hp _, fun w σ Q fs dv x e h q => by
    have h : some d = some dv := h
    cases h
    exact q v (r w)⟩
theorem se_str {x : Str} {j : Nat} : SE C c i (.Constant (.str x) j pos) (.cst (.str x)) := se_c (fun X => pe_str) fun _ => .str x
theorem se_int {n : Int} {j : Nat} : SE C c i (.Constant (.int n) j pos) (.cst (.int n)) := se_c (fun X => pe_int) fun _ => .int n
theorem se_bl {n : Bool} {j : Nat} : SE C c i (.Constant (.bool n) j pos) (.cst (.bl n)) := se_c (fun X => pe_bl) fun _ => .bl n
theorem se_non {j : Nat} : SE C c i (.Constant .none j pos) (.cst .non) := se_c (fun X => pe_non) fun _ => .non
theorem xr_field {K : PySem.W.Frag} {w : Wd} {f : Str} {dv : D} : ∀ {fv : List (Str × V)} {fs : List (Str × D)}, fv.map (·.1) = fs.map (·.1) → RvL K w (fv.map (·.2)) (fs.map (·.2)) → fs.lookup f = some dv → ∃ v, fv.lookup f = some v ∧ Rv K w v dv
  | [], [], _, _, h => by cases h
  | (n, v) :: fv, (m, d) :: fs, e, .cons r t, h => by
    have e1 : n = m := (List.cons.inj e).1
    subst e1
    by_cases hf : (f == n) = true
    · rw [List.lookup_cons, hf] at h
      have h : some d = some dv := h
      cases h
      exact ⟨v, by rw [List.lookup_cons, hf], r⟩
    · have hf : (f == n) = false := by simpa using hf
      rw [List.lookup_cons, hf] at h
      obtain ⟨u, h1, h2⟩ := xr_field (List.cons.inj e).2 t h
      exact ⟨u, by rw [List.lookup_cons, hf]; exact h1, h2⟩
  | [], _ :: _, e, _, _ => by cases e
  | _ :: _, [], e, _, _ => by cases e
theorem se_fld {f n : Str} (E : ExcAt C.P C.w C.k c gs) (hf : f ∈ gs := by simp) (hN : C.N[i]? = some n := by rfl) (hv : visB C.sc n = true := by rfl) (hd : (n == ("__debug__" : Str)) = false := by decide +kernel) (hcd : (n == ("__classdict__" : Str)) = false := by decide +kernel)
    (hb : ∀ env, attributeBase (.Name n p) f env (eval (.Name n p) env) = eval (.Name n p) env := by intro _; rfl) : SE C c i (.Attribute (.Name n p) f pos) (.fld f) := fun a cls d => by
  obtain ⟨Ca, fI, fd, hm, Tx, iC, tI, F1, hbd, xf, hno, te⟩ := E.ex
  refine ⟨tXf a cls d Ca f (tVar i), fun X h oe pn z f => ?_, fun w σ Q fs dv x es h q => ?_⟩
  · exact pe_xf (by rw [h.K]; exact xf) (by rw [h.K]; exact hno _ hf) z f (pe_var (X := X.suite a ((a, oe) :: pn)) (by show X.N[i]? = _; rw [h.N]; exact hN) (by show Vis X.env.scope n; rw [h.sc]; exact vis_of hv) hd hcd) (hb _)
  · obtain ⟨C2, hm2, ec, dd, fv, ed, hdd, m1, m2⟩ := x
    rw [hm] at hm2
    cases hm2
    obtain ⟨v, h1, h2⟩ := xr_field m1 m2 h
    exact ⟨_, es, rfl, ec, dd, fv, v, ed, hdd, h1, q v h2⟩
theorem sa_nil : SA C c i [] [] := fun a cls d => ⟨tNil, fun X h oe pn z f => pa_nil, fun w σ Q fs l x es h q => by cases h; exact q [] .nil⟩
theorem sa_cons (ha : SE C c i e it) (hr : SA C c i es its) (hs : NoStar e es := by intro _; rfl) : SA C c i (e :: es) (it :: its) := fun a cls d => by
  obtain ⟨t, p1, v1⟩ := ha a cls d
  obtain ⟨u, p2, v2⟩ := hr a cls d
  refine ⟨tCons t u, fun X h oe pn z f => pa_cons (p1 X h oe pn z f) (p2 X h oe pn z f) (hs _), fun w σ Q fs l x es h q => ?_⟩
  unfold itsF at h
  split at h
  · rename_i dv l' h1 h2
    cases h
    exact v1 w σ _ fs dv x es h1 fun v r => v2 w σ _ fs l' x es h2 fun vs rs => q (v :: vs) (.cons r rs)
  · cases h
end
theorem Rel.gone {K : PySem.W.Frag} {w0 w : Wd} {ρ : Env} {σ : Sg} (R : Rel K w0 w ρ σ) (i : Nat) (x : Option V) : Rel K w0 w (ρ.set i .no) (σ.set i x) := by
  refine ⟨R.ok, R.gr, by rw [List.length_set, List.length_set]; exact R.ln, fun j s h => ?_, fun j k s t a ne h1 h2 o1 o2 e1 e2 => ?_⟩
  · by_cases hj : i = j
    · subst hj
      by_cases hl : i < ρ.length
      · rw [List.getElem?_set_self hl] at h
        cases h
        exact .no
      · rw [List.getElem?_eq_none (by rw [List.length_set]; omega)] at h
        cases h
    · rw [List.getElem?_set_ne hj] at h
      rw [List.getElem?_set_ne hj]
      exact R.sl j s h
  · have nj : i ≠ j := fun z => by
      subst z
      by_cases hl : i < ρ.length
      · rw [List.getElem?_set_self hl] at h1; cases h1; cases o1
      · rw [List.getElem?_eq_none (by rw [List.length_set]; omega)] at h1; cases h1
    have nk : i ≠ k := fun z => by
      subst z
      by_cases hl : i < ρ.length
      · rw [List.getElem?_set_self hl] at h2; cases h2; cases o2
      · rw [List.getElem?_eq_none (by rw [List.length_set]; omega)] at h2; cases h2
    rw [List.getElem?_set_ne nj] at h1 e1
    rw [List.getElem?_set_ne nk] at h2 e2
    exact R.inj j k s t a ne h1 h2 o1 o2 e1 e2
def tryEnd (i j : Nat) (its : List It) (fs : List (Str × D)) (ρ : Env) (g : G) : Re Out := match itsF fs its with
  | some l => if l.length ≤ lim then .ok (.nx (((ρ.set i .no).set j (.im (.tup l))).set i .no)) g else .bad
  | none => .bad
/-- the suite's result: slot j takes a tuple, slot i (the exception's name) is gone -/
def sTryT (c : Str) (i j : Nat) (its : List It) (f : Ms) : Ms := fun ρ g => match f ρ g with
  | .ex c' fs ρ' g' => if c' = c ∧ i < ρ'.length then tryEnd i j its fs ρ' g' else .bad
  | y => y
theorem PoS.ite {C : Ctx} {w0 w : Wd} {E : Ends} {p : Prop} [Decidable p] {a : Re Out} (h : PoS C w0 w E (if p then a else .bad)) : p ∧ PoS C w0 w E a := by
  by_cases hp : p
  · rw [if_pos hp] at h
    exact ⟨hp, h⟩
  · rw [if_neg hp] at h
    exact h.elim
theorem tryEnd_inv {C : Ctx} {w0 w : Wd} {E : Ends} {i j : Nat} {its : List It} {fs : List (Str × D)} {ρ : Env} {g : G} (h : PoS C w0 w E (tryEnd i j its fs ρ g)) :
    ∃ l, itsF fs its = some l ∧ l.length ≤ lim ∧ PoS C w0 w E (.ok (.nx (((ρ.set i .no).set j (.im (.tup l))).set i .no)) g) := by
  unfold tryEnd at h
  cases hl : itsF fs its with
  | none => rw [hl] at h; exact h.elim
  | some l =>
    rw [hl] at h
    obtain ⟨hz, h⟩ := PoS.ite h
    exact ⟨l, rfl, hz, h⟩
section
variable {C : Ctx} {c n x : Str} {i j : Nat} {es : List Expr} {its : List It} {gs : List Str} {body : List Stmt} {f : Ms} {np xp tp ap hp pos : Pos} {kt : Nat}
theorem ds_tryT (i j : Nat) (E : ExcAt C.P C.w C.k c gs) (hb : ∀ W : WX, DSs { C with W := W } body f) (ha : SA C c i es its) (ht : C.top = true := by rfl) (hN : C.N[i]? = some n := by rfl) (hn : C.sc.names.lookup n = some .local := by rfl) (hM : C.N[j]? = some x := by rfl) (hx : C.sc.names.lookup x = some .local := by rfl)
    (hij : i ≠ j := by decide) (hg : glB C.sc c = true := by rfl) (hdb : (c == ("__debug__" : Str)) = false := by decide +kernel) (hs : ∀ env, env.scope = C.sc → swapsWith (.Tuple es kt tp) (some (.Name x xp)) ap.line env = pure false := by intro _ _; rfl) :
    DS C (.Try body [.ExceptHandler (some (.Name c np)) (some n) [.Assign [.Name x xp] (.Tuple es kt tp) ap] hp] [] [] pos) (sTryT c i j its f) := by
  obtain ⟨Ca, fI, fd, hm, Tx, iC, tI, F1, hbd, xf, hno, te⟩ := E.ex
  let tb : WX → TS := fun W => (hb W).choose
  have tb1 : ∀ W X, CtxOk { C with W := W } X → PSs X body (tb W) := fun W => (hb W).choose_spec.1
  have tb2 : ∀ W, EvS { C with W := W } (tb W) f := fun W => (hb W).choose_spec.2
  let ts : Addr → Value → Option Addr → TS := fun a cls d => tAsg (fun σ H Q => (ha a cls d).choose σ H fun xs H1 => xs.length ≤ sizeLine ∧ NewT xs H1 Q) (gName j)
  refine ⟨fun D σ H => tb (wAs C.k.K (.ref Ca) i ts C.W D) D σ H, fun X h => ?_, ⟨fun w0 w ρ σ Ed R k => ?_⟩⟩
  · rw [← h.K]
    exact ps_try_as (i := i) (n := n) (c := .ref Ca) (x := c) (tb := tb) (ts := ts) (Wout := C.W) (h.top ht).1 (h.top ht).2 h.nd (by rw [h.N]; exact hN) (by show X.env.scope.names.lookup n = _; rw [h.sc]; exact hn) ⟨h.gl hg, hdb, .inl (by rw [h.mg]; exact hm)⟩ h.tk
      (fun W pn xe tk pa => tb1 W _ ⟨h.P, h.w, h.K, h.mg, h.base, h.N, h.nd, h.sc, h.calm, h.room, h.gd, tk, pa, h.fn, h.top⟩)
      (fun a oe cls d pn z f => pss_one (ps_set (X := X.suite a ((a, oe) :: pn)) h.nd (by show X.N[j]? = _; rw [h.N]; exact hM) (.inl (by show X.env.scope.names.lookup x = _; rw [h.sc]; exact hx)) (pe_tupN ((ha a cls d).choose_spec.1 X h oe pn z f)) (hs _ h.sc) (.inr (by show X.env.scope.names.lookup x = _; rw [h.sc]; exact hx))))
  · refine (tb2 (wAs C.k.K (.ref Ca) i ts C.W Ed)).run w0 w ρ σ Ed R ?_
    unfold sTryT at k
    generalize f ρ w.g = y at k ⊢
    match y, k with
    | .ok (.nx ρ') g', k => exact k
    | .ok (.bk ρ') g', k => exact k
    | .ok (.ct ρ') g', k => exact k
    | .ok (.rt d) g', k => exact k
    | .bad, k => exact k
    | .ex c' fs ρ' g', k =>
      intro w' σ' cls od zl eg R' xr
      obtain ⟨⟨hc, hi⟩, k2⟩ := PoS.ite (p := c' = c ∧ i < ρ'.length) (a := tryEnd i j its fs ρ' g') k
      subst hc
      obtain ⟨l, hl, hz, k3⟩ := tryEnd_inv k2
      obtain ⟨C2, hm2, ec, dd, fv, ed, hdd, m1, m2⟩ := id xr
      rw [hm] at hm2
      cases hm2
      subst ec
      refine ⟨true, te, fun _ a na => ?_, fun q => by cases q⟩
      refine (ha a (.ref Ca) od).choose_spec.2 w' (σ'.set i (some (.ref a))) _ fs l xr (by rw [List.getElem?_set_self (by rw [← R'.ln]; exact hi)]) hl fun vs r => ⟨by rw [r.length]; exact Nat.le_trans hz lim_le, fun p ob hp hd => ?_⟩
      have z2 : Zl w' { w' with Z := upd w'.Z p (.frz ob (.tup vs)), H := upd w'.H p (.frz ob (.tup vs)) } := (To.lay R'.ok hp).gr.zl
      have R1 := (R'.gone i (some (V.ref a))).step (To.lay (u := .frz ob (.tup vs)) R'.ok hp).gr (To.lay (u := .frz ob (.tup vs)) R'.ok hp).ok
      have R2 := (R1.setIm j (v := .ref p) (d := .tup l) (.tup (.inl ⟨ob, upd_same, hd⟩) (r.mono (.put (none_of_sub R'.ok hp))))).gone i none
      exact k3 _ _ (zl.trans z2) eg R2
end
end Dl
set_option Elab.async false
set_option linter.all false
set_option maxRecDepth 100000
set_option maxHeartbeats 2000000
namespace Dl
open PySem PySem.Spec PyProof.Rows L2 NdefX
/-! ### the own errors, from what is found in the written part -/
theorem supC_mk {P : Program} {K : PySem.W.Frag} {h : Heap} {mg : Str → Option Value} {C fI cc cda : Addr} {qual : Str} {params : Arguments} {body : List Stmt} {scope : Scope} {dV kV doc pm ct oc ccl cl : Value} {an od cdd cld : Option Addr} {osl ccs csl : Array (Option Value)} {cvs : Array Value} {file : Str} {tf : Tok}
    (X : K.In h) (G : h.Ns mainGlobals mg)
    (lf : K.lookup fI = some ⟨oc, od, .func (PySem.W.ksFn "__init__" qual params body scope dV kV doc pm an (.ref cda) ct cc), osl⟩) (code : PySem.W.codeIn K (.ref cda) qual = true) (lcd : K.lookup cda = some ⟨ccl, cdd, .fields cvs, ccs⟩) (vs2 : cvs[2]? = some (.str file tf)) (hf : ((P.main.file : Str) == file) = true)
    (lcc : K.lookup cc = some ⟨cl, cld, .cell (some (.ref C)), csl⟩) (sub : PySem.W.mroIn K C (.ref C) = some true) (subV : PySem.W.subIn K (.ref C) (.type "ValueError") = some true) (sup : PySem.W.ks_superIn K C C "__init__" = some (some (.builtin "ValueError.__init__")))
    (opq : PySem.W.nsIn K cStatics "thirdparty.any" = some none) (nos : PySem.W.nsIn K mainGlobals "super" = some none) (top : (P.main.scope.names.lookup ("super" : Str)).isSome = false) :
    SupC P K mg C fI qual params body scope (PySem.W.ksFn "__init__" qual params body scope dV kV doc pm an (.ref cda) ct cc) cc cda :=
  ⟨⟨dV, kV, doc, pm, ct, an, oc, od, osl, rfl, lf⟩, code, ⟨ccl, cdd, cvs, ccs, file, tf, lcd, vs2, hf⟩, ⟨cl, cld, csl, lcc⟩, sub, subV, sup, opq, PySem.W.mg_none_of X G nos, top⟩
/-! ### defs with defaults -/
section
variable {P : Program} {w : World} {K : PySem.W.Frag} {mg : Str → Option Value} {base : Heap}
theorem fnG_ofD {k : Nat} {x qual : Str} {params : Arguments} {stmts : List Stmt} {scope : Scope} {dvs : List V} {kws : List (Str × V)} {f : Addr} {fd : FuncData} {N ps : List Str} {sp : Sp} (F : FunD K x qual params stmts scope dvs kws f fd) (S : FnScope N ps scope) (len : ∀ vs H Q E, sp vs H Q E → vs.length = ps.length)
    (body : ∀ (cdv : Value) (A : Around) (outer : List PySem.Env) (s : Shared) (H : Hp) (vs : List V) (Q : VK) (E : XK), Room k (A.deeper (envOfC qual scope s.heap.objs.size f cdv)) → A.guards = some [] → sp vs H Q E →
      ∃ t, PSs (cxOf (L2.CX P w) P w K mg base N qual scope f cdv A outer s H E) stmts t ∧ t { nx := fun _ H' => Q .non H', rt := Q } (start N vs) H) : FnG P w K mg base (k + 1) f fd ps sp := by
  obtain ⟨oc, od, dV, kV, doc, pm, an, cdv, ct, osl, rfl, lk, hcd, _, _⟩ := F.ex
  refine ⟨len, fun A outer s H args us vs Q E room gd e0 bd rv want => ?_⟩
  have there : K.In s.heap := e0.mod.kin.keeps fun b o q => (e0.bs b o q).1
  have unlim : s.heap.NoLimit := e0.mod.nolimit.keeps fun b o q => (e0.bs b o q).1
  refine codeAny_call_function room.depth (there _ _ lk) rfl S.co S.gen rfl (PySem.W.codeRec_of there hcd) (bd _ _ _ _ ?_)
  have kinds : ∀ y ∈ ps.zip us, scope.names.lookup y.1 = some .local ∨ (scope.names.lookup y.1 = some .cell ∧ ((cellsFrom (s.heap.objs.size + 1) scope.names []).lookup y.1).isSome = true) := by
    rintro ⟨n, v⟩ hm
    cases S.par n (List.of_mem_zip hm).1 with
    | inl q => exact .inl q
    | inr q => exact .inr ⟨q, PySem.W.cellsFrom_some _ _ _ (.inl q)⟩
  refine wpAny_newFunctionEnv_cells S.kind kinds fun en ee s1 ic => ?_
  cases ee
  obtain ⟨t, ok, got⟩ := body cdv A outer s H vs Q E (room.deeper _) gd want
  have at0 := inv_start (CX := L2.CX P w) (qual := qual) (f := f) (cd := cdv) (E := E) S room.hd e0 (len _ _ _ _ want) rv ic
  refine ⟨unlim.keeps ic.toInCall.keep, codeAny_func (wpAny_mono (ok.run [] s1 (start N vs) H _ at0 got) (fun fl s' h => ?_) fun _ _ h => h)⟩
  match fl, h with
  | .ret u, ⟨v, σ', H', J, r, q⟩ => exact ⟨v, H', J.os, J.bare, J.base, J.hok, r, q⟩
  | .next, ⟨σ', H', J, q⟩ => exact ⟨.non, H', J.os, J.bare, J.base, J.hok, rfl, q⟩
  | .brk, ⟨_, _, _, q⟩ => exact q.elim
  | .cont, ⟨_, _, _, q⟩ => exact q.elim
end
/-- a def of the module with defaults, by its name; dd: the defaults of the last parameters -/
structure FnAtD (k : Kt) (x : Str) (st : Stmt) (ps : List Str) (dd : List D) : Prop where
  ex : ∃ (f : Addr) (fd : FuncData) (dvs wvs : List V) (ds : List Value), FunD k.K x x (defArgs st) (defBody st) (defScope st) wvs [] f fd ∧ k.mg x = some (.ref f) ∧ Binds k.K fd ps [] ∧ Binds k.K fd ps ds ∧ Vals dvs ds ∧ ∀ w, RvL k.K w dvs dd
structure DFnD (P : Program) (w : World) (k : Kt) (base : Heap) (lv : Nat) (x : Str) (n : Nat) (dd : List D) (Φ : List D → G → Re D) : Prop where
  ex : ∃ (f : Addr) (fd : FuncData) (ps : List Str) (dvs : List V) (ds : List Value), FnG P w k.K k.mg base lv f fd ps (spD k n Φ) ∧ k.mg x = some (.ref f) ∧ PySem.W.keepIn k.K (.ref f) = true ∧ Binds k.K fd ps [] ∧ ps.length = n ∧ Binds k.K fd ps ds ∧ Vals dvs ds ∧ ∀ w, RvL k.K w dvs dd
theorem DFnD.toFn {P : Program} {w : World} {k : Kt} {base : Heap} {lv : Nat} {x : Str} {n : Nat} {dd : List D} {Φ : List D → G → Re D} (F : DFnD P w k base lv x n dd Φ) : DFn P w k base lv x n Φ := by
  obtain ⟨f, fd, ps, dvs, ds, a, b, c, d, e, _⟩ := F.ex
  exact ⟨f, fd, ps, a, b, c, d, e⟩
theorem dfn_ofD {P : Program} {w : World} {k : Kt} {base : Heap} {lv : Nat} {x : Str} {st : Stmt} {N ps : List Str} {dd : List D} {b : Ms} (F : FnAtD k x st ps dd) (S : FnScope N ps (defScope st))
    (body : ∀ W : WX, DSs ⟨P, w, k, base, N, defScope st, lv, W, fun _ => true, true⟩ (defBody st) b) : DFnD P w k base (lv + 1) x ps.length dd (bodyF N.length b) := by
  obtain ⟨f, fd, dvs, wvs, ds, F, hm, hb, hb2, hv, hr⟩ := F.ex
  refine ⟨f, fd, ps, dvs, ds, fnG_ofD F S (fun vs H Q E h => ?_) (fun cdv A outer s H vs Q E room gd h => ?_), hm, F.kp, hb, rfl, hb2, hv, hr⟩
  · obtain ⟨_, ds, _, _, r, l, _⟩ := h
    rw [r.length, l]
  · obtain ⟨wd, ds, rfl, o, r, l, want⟩ := h
    obtain ⟨t, p, v⟩ := body fun cls od _ H => E cls od H
    refine ⟨t, p _ ⟨rfl, rfl, rfl, rfl, rfl, rfl, S.nd, rfl, rfl, room, gd, takes_of rfl rfl rfl rfl, passes_of rfl, rfl, fun _ => ⟨rfl, rfl⟩⟩, v.run wd wd (entry N.length ds) (start N vs) _ (rel_entry o r) ?_⟩
    unfold Pf bodyF at want
    generalize b (entry N.length ds) wd.g = y at want
    match y, want with
    | .ok (.nx ρ) g', want => exact fun w' σ' z e R => want .non w' ⟨R.gr, R.ok, e⟩ .non
    | .ok (.rt d) g', want => exact fun v w' gr ok e rv => want v w' ⟨gr, ok, e⟩ rv
    | .ex c fs ρ g', want => exact fun w' σ' cls od z e R x => want w' cls od ⟨R.gr, R.ok, e⟩ x
section
variable {X : Cx} {W : WX} {k : Nat} {f : Addr} {fd : FuncData} {ps : List Str} {sp : Sp} {x : Str} {p pos : Pos} {e : Expr} {es : List Expr} {t : TA} {ds : List Value} {dvs : List V}
theorem run_GD {pins : List (Addr × Obj)} {σ : Sg} {H : Hp} {s : Shared} {Q : VK} {us : List Value} {vs : List V} (F : FnG X.prog X.w X.K X.mg X.base k f fd ps sp) (hr : Room k X.A) (gd : X.A.guards = some []) (hb : Binds X.K fd ps ds) (hd : Vals dvs ds) (tk : Takes X W)
    (I : Inv X pins σ H s) (r : Vals vs us) (h : sp (vs ++ dvs) H Q fun cls d H' => W cls d σ H') : wpAny (model X.prog X.w) X.A (call (.ref f) us) (EP X pins σ Q) X.xe s := by
  have r2 : Vals (vs ++ dvs) (us ++ ds) := r.append hd
  have hl : (us ++ ds).length = ps.length := by rw [← r2.length]; exact F.len _ _ _ _ h
  have b := hb s us I.kIn hl
  refine wpAny_call (codeAny_mono (F.run X.A X.stack s H ⟨us, []⟩ (us ++ ds) (vs ++ dvs) Q _ hr gd I.env0 b r2 h) fun r s' hq => ?_)
  match r, hq with
  | .error e, hq => exact tk e s' (XE.of_call I (fun _ _ _ h => h) hq)
  | .ok (.ret u), hq => exact I.after hq
theorem pe_callGD (F : FnG X.prog X.w X.K X.mg X.base k f fd ps sp) (hr : Room k X.A) (gd : X.A.guards = some []) (hg : Gl X x) (hm : X.mg x = some (.ref f)) (hk : PySem.W.keepIn X.K (.ref f) = true) (hb : Binds X.K fd ps ds) (hd : Vals dvs ds) (tk : Takes X W) (ha : PA X (e :: es) t)
    (hdb : (x == ("__debug__" : Str)) = false) (he : starEach (e :: es) X.env = (false, eval e X.env) :: starEach es X.env) (hpl : (backTo pos (starEach es X.env)).any (·.1) = false) :
    PE X (.Call (.Name x p) (e :: es) [] pos) (fun σ H Q => t σ H fun vs H1 => sp (vs ++ dvs) H1 Q fun cls d H' => W cls d σ H') := by
  refine ⟨fun pins s σ H Q I h => wpAny_Call_Name_kw (ld_glob I hg hm ?_ hdb)⟩
  exact PySem.W.callWith_K (h₀ := X.base) I.ok.mod.kin hk (thn (ha.run pos pins s σ H _ I h) fun us s1 ⟨vs, H1, I1, r, q⟩ => ⟨I1.kIn, run_GD F hr gd hb hd tk I1 r q⟩) he hpl
end
section
variable {C : Ctx} {x : Str} {p pos : Pos} {e : Expr} {es : List Expr} {fs : Me (List D)} {lv n : Nat} {dd : List D} {Φ : List D → G → Re D}
def eCallD (n : Nat) (dd : List D) (Φ : List D → G → Re D) (fs : Me (List D)) : Me D := fun ρ g => (fs ρ g).bind fun l g => if (l ++ dd).length = n then Φ (l ++ dd) g else .bad
theorem de_callD (F : DFnD C.P C.w C.k C.base lv x n dd Φ) (ha : DA C (e :: es) fs) (hl : lv ≤ C.lv := by first | decide | (dsimp only [Ctx.blk]; decide)) (hg : glB C.sc x = true := by rfl) (hdb : (x == ("__debug__" : Str)) = false := by decide +kernel) (ns : NoStar e es := by intro _; rfl) (hpl : ∀ env, (backTo pos (starEach es env)).any (·.1) = false := by intro _; rfl) :
    DE C (.Call (.Name x p) (e :: es) [] pos) (eCallD n dd Φ fs) := by
  obtain ⟨t, q, v⟩ := ha
  obtain ⟨f, fd, ps, dvs, ds, F, hm, hk, hb, hn, hb2, hv, hr⟩ := F.ex
  refine ⟨_, fun X h => pe_callGD (W := C.W) (sp := spD C.k n Φ) (ds := ds) (dvs := dvs) (by rw [h.P, h.w, h.K, h.mg, h.base]; exact F) (h.room.mono hl) h.gd (h.gl hg) (by rw [h.mg]; exact hm) (by rw [h.K]; exact hk) (by rw [h.K]; exact hb2) hv h.tk (q X h) hdb (ns _) (hpl _), ⟨fun w0 w ρ σ Q R k => v.run w0 w ρ σ _ R (Po.bind (lft_D _) k fun l us w1 e1 g1 o1 r1 k1 => ?_)⟩⟩
  split at k1
  · rename_i z
    refine ⟨w1, l ++ dd, rfl, o1, RvL.append r1 (hr _), z, ?_⟩
    unfold Pf
    match Φ (l ++ dd) w1.g, k1 with
    | .ok a g', k1 => exact k1
    | .ex c fs r g', k1 => exact k1
  · exact k1.elim
end
/-! ### an own error class as it stands in the program -/
def clsInit (s : Stmt) : Stmt := match s with
  | .ClassDef _ _ _ b _ _ _ _ _ _ _ => b.getD 0 (.Pass ⟨0, 0, 0, 0⟩)
  | s => s
theorem exm_refl {K : PySem.W.Frag} {S : Addr} (h1 : PySem.W.subIn K (.ref S) (.type "BaseException") = some true) (h2 : PySem.W.isClsIn K S = true) (h3 : PySem.W.typeIn K (.ref S) = some (.type "type")) (h4 : PySem.W.subIn K (.ref S) (.ref S) = some true) :
    PySem.W.exmOne K (.ref S) (.ref S) = some true := by
  have b1 : (PySem.W.subIn K (.ref S) (.type "BaseException") == some true) = true := by rw [h1]; rfl
  have b2 : ((PySem.W.clsIn K S).isSome && PySem.W.typeIn K (.ref S) == some (.type "type")) = true := by
    have z : (PySem.W.clsIn K S).isSome = true := h2
    rw [z, h3]
    rfl
  unfold PySem.W.exmOne
  rw [if_pos b1]
  unfold PySem.W.kitCls
  first
    | (rw [if_pos b2]; exact h4)
    | (simp only [b2, if_true]; exact h4)
    | (simp only [b2, h4]; rfl)
theorem excAt_mk {P : Program} {w : World} {K : PySem.W.Frag} {h : Heap} {mg : Str → Option Value} {c : Str} {fs : List Str} {C fI R N : Addr} {fd : FuncData} {nm q : Str} {bs : List Value} {sn : List Str} {sub : List Value} {ab : Bool} {col : Option Bool} {dd : Option Addr} {k0 k1 k2 k3 k5 : Option Value}
    (X : K.In h) (G : h.Ns mainGlobals mg) (a : PySem.W.nsIn K mainGlobals c = some (some (.ref C)))
    (lC : K.lookup C = some (excClassObj nm q C N bs [.ref R, .type "ValueError", .type "Exception", .type "BaseException", .type "object"] true sn sub ab col dd k0 k1 k2 k3 k5 "ValueError.__new__"))
    (sa : PySem.W.findIn K (.ref C) "__setattr__" = some (some (.builtin "object.__setattr__"))) (ga : PySem.W.findIn K (.ref C) "__getattribute__" = some (some (.builtin "BaseException.__getattribute__"))) (gg : PySem.W.findIn K (.ref C) "__getattr__" = some none)
    (exC : PySem.W.subIn K (.ref C) (.type "BaseException") = some true) (tyC : PySem.W.typeIn K (.ref C) = some (.type "type")) (kC : PySem.W.keepIn K (.ref C) = true) (hd : PySem.W.hasDictIn K C = true) (ic : PySem.W.isClsIn K C = true) (sC : PySem.W.subIn K (.ref C) (.ref C) = some true)
    (iC : PySem.W.findIn K (.ref C) "__init__" = some (some (.ref fI))) (tI : PySem.W.typeIn K (.ref fI) = some (.type "function")) (hno : ∀ f ∈ fs, PySem.W.findIn K (.ref C) f = some none)
    (F : OexC K C → ∀ base, FnOk P w K mg base (L2.CX P w) 1 fI fd ("self" :: fs) (spInit K C fs)) (hb : Binds K fd ("self" :: fs) []) : ExcAt P w ⟨K, mg⟩ c fs := by
  have T : OexC K C := ⟨⟨nm, q, N, bs, _, sn, sub, ab, col, dd, k0, k1, k2, k3, k5, lC, rfl⟩, sa, exC, tyC, kC⟩
  exact ⟨C, fI, fd, PySem.W.mg_of X G a, T, iC, tI, F T, hb, ⟨ga, gg, exC, hd⟩, hno, exm_refl exC ic tyC sC⟩
/-- defaults: one whole number for the last parameter -/
theorem fnAtD_mk {K : PySem.W.Frag} {h : Heap} {mg : Str → Option Value} {x : Str} {st : Stmt} {ps : List Str} {f T : Addr} {od an td : Option Addr} {sl tsl : Array (Option Value)} {oc kV dc pm cd ct tc : Value} {n : Int} {tk : Tok} {tn : Nat} (X : K.In h) (G : h.Ns mainGlobals mg)
    (a : PySem.W.nsIn K mainGlobals x = some (some (.ref f))) (l : K.lookup f = some ⟨oc, od, .func (PySem.W.fnOf x x (defArgs st) (defBody st) (defScope st) (.ref T) kV dc pm an cd ct), sl⟩) (lT : K.lookup T = some ⟨tc, td, .seq #[.int n tk] tn, tsl⟩) (c : PySem.W.codeIn K cd x = true) (q : PySem.W.keepIn K (.ref f) = true)
    (h1 : ∀ (T : Addr) (kV doc pm : Value) (an : Option Addr) (cdv ct : Value) (us its : List Value), us.length = ps.length → its.length = ([V.int n]).length → ∃ k, bindArgs (PySem.W.fnOf x x (defArgs st) (defBody st) (defScope st) (.ref T) kV doc pm an cdv ct) ⟨us, []⟩ = seqItems? (.ref T) >>= k ∧ k (some its.toArray) = pure (ps.zip (us ++ its.drop 1)))
    (h2 : ∀ (T : Addr) (kV doc pm : Value) (an : Option Addr) (cdv ct : Value) (us its : List Value), us.length + 1 = ps.length → its.length = ([V.int n]).length → ∃ k, bindArgs (PySem.W.fnOf x x (defArgs st) (defBody st) (defScope st) (.ref T) kV doc pm an cdv ct) ⟨us, []⟩ = seqItems? (.ref T) >>= k ∧ k (some its.toArray) = pure (ps.zip (us ++ its.drop 0))) (hp : 1 ≤ ps.length) :
    FnAtD ⟨K, mg⟩ x st ps [.int n] := by
  have F : FunD K x x (defArgs st) (defBody st) (defScope st) [.int n] [] f (PySem.W.fnOf x x (defArgs st) (defBody st) (defScope st) (.ref T) kV dc pm an cd ct) :=
    ⟨⟨oc, od, .ref T, kV, dc, pm, an, cd, ct, sl, rfl, l, c, .inr ⟨by simp, T, _, [.int n tk], tn, rfl, lT, rfl, .cons ⟨tk, rfl⟩ .nil⟩, .inl rfl⟩, q⟩
  obtain ⟨d1, r1, b1⟩ := F.binds1 ps.length 1 (by simp) (by simp) fun T kV doc pm an cdv ct us its l1 l2 => h1 T kV doc pm an cdv ct us its l1 l2
  obtain ⟨d2, r2, b2⟩ := F.binds1 (ps.length - 1) 0 (by simp) (by show ps.length - 1 + 1 = ps.length; omega) fun T kV doc pm an cdv ct us its l1 l2 => h2 T kV doc pm an cdv ct us its (by omega) l2
  have e1 : d1 = [] := by
    have z := r1.length
    cases d1 with
    | nil => rfl
    | cons _ _ => simp at z
  subst e1
  exact ⟨f, _, _, [.int n], d2, F, PySem.W.mg_of X G a, b1, b2, r2, fun w => .cons (.int n) .nil⟩
end Dl
set_option Elab.async false
set_option linter.all false
set_option maxRecDepth 100000
set_option maxHeartbeats 4000000
namespace Dl
open PySem PySem.Spec PyProof.Rows L2
/-! ### try with several clauses `except c as n` -/
/-- one clause: the class that it names, the suite's reading -/
abbrev Cl := Value × (Addr → Value → Option Addr → TS)
/-- an end behind whose suite slot i is empty -/
def lessE (D : Ends) (i : Nat) : Ends := { nx := fun σ H => D.nx (σ.set i none) H, rt := D.rt, bk := fun σ H => D.bk (σ.set i none) H, ct := fun σ H => D.ct (σ.set i none) H }
def wCls (K : PySem.W.Frag) (i : Nat) (Wout : WX) (D : Ends) : List Cl → WX
  | [] => Wout
  | q :: r => fun cls d σ H => ∃ b, PySem.W.exmOne K cls q.1 = some b ∧ (b = true → ∀ a, H a = none → q.2 a cls d (lessE D i) (σ.set i (some (.ref a))) H) ∧ (b = false → wCls K i Wout D r cls d σ H)
inductive ClsOk (X : Cx) (n : Str) : List ExceptHandler → List Cl → Prop
  | nil : ClsOk X n [] []
  | cons {x : Str} {c : Value} {ts : Addr → Value → Option Addr → TS} {st : Stmt} {sts : List Stmt} {p q : Pos} {hds : List ExceptHandler} {l : List Cl} (hc : Names X x c)
      (hs : ∀ (a : Addr) (oe : Obj) (cls : Value) (d : Option Addr) (pn : List (Addr × Obj)), Zc cls d oe → (∃ vs, oe.data = .fields vs) → PSs (X.suite a ((a, oe) :: pn)) (st :: sts) (ts a cls d)) (r : ClsOk X n hds l) :
      ClsOk X n (.ExceptHandler (some (.Name x p)) (some n) (st :: sts) q :: hds) ((c, ts) :: l)
section
variable {X : Cx} {n : Str} {i : Nat} {D : Ends} {pins : List (Addr × Obj)} {sI s' : Shared} {σ : Sg} {H : Hp} {B h3 : Heap} {a : Addr} {cls : Value} {d : Option Addr}
/-- an exception that has landed in the frame, its clauses ahead -/
structure Landed (X : Cx) (pins : List (Addr × Obj)) (sI s' : Shared) (σ : Sg) (H : Hp) (B h3 : Heap) (a : Addr) (cls : Value) (d : Option Addr) : Prop where
  J : Inv X pins σ H sI
  nb : ∀ b o, sI.heap.get? b = some o → b ∉ frs X.stack → B.get? b = some o
  up : sI.heap.UpToSlots h3
  fl : HandSPX.FlyingZ B (X.env :: X.outer) a (Zc cls d) h3
  na : H a = none
  os : s'.os = sI.os
  ag : AllBare s'.gens
theorem Landed.off (L : Landed X pins sI s' σ H B h3 a cls d) (hf : X.env.frame = some X.env.locals) : a ≠ X.env.locals ∧ a ∉ X.fs := by
  obtain ⟨oe, vs, e, _, dd⟩ := L.fl.there
  have key : a ∉ frs (X.env :: X.outer) := fun hm => by
    obtain ⟨_, o, e2, hnf⟩ := L.fl.2.2.1.mem hm
    rw [e] at e2
    cases e2
    exact hnf _ dd
  refine ⟨fun z => key (List.mem_filterMap.mpr ⟨X.env, List.mem_cons_self, by rw [hf, z]⟩), fun hm => ?_⟩
  obtain ⟨en, he, q⟩ := List.mem_filterMap.mp hm
  exact key (List.mem_filterMap.mpr ⟨en, List.mem_cons_of_mem _ he, q⟩)
theorem Landed.at_ (L : Landed X pins sI s' σ H B h3 a cls d) {h4 : Heap} (st : B.StaysIn h4) (up : h3.UpToSlots h4) : Inv X pins σ H { s' with heap := h4 } := L.J.landed (s' := { s' with heap := h4 }) L.nb st (L.up.trans up) L.os L.ag
/-- no clause is left: it goes on -/
theorem cls_none {Wout : WX} (hs : X.stack = X.env :: X.outer) (hf : X.env.frame = some X.env.locals) (tk : Takes X Wout) (L : Landed X pins sI s' σ H B h3 a cls d) (w : Wout cls d σ H) :
    wpAny (model X.prog X.w) X.A (handleBy (.ref a) X.env []) (SP X pins D) X.xe { s' with heap := h3 } := by
  refine wpAny_handleBy_nil ?_
  obtain ⟨_, _, _, oe, vs, T, oT, ts, he, hz, hd, h1, hr⟩ := id L.fl
  unfold PySem.passOn
  refine wpAny_bind (wpAny_field he hd h1 ?_)
  rw [if_neg (show ¬ ((Value.ref T == Value.none) = true) from by simp)]
  have last : wpAny (model X.prog X.w) X.A (setFlight (.ref a) X.env.frame) (fun _ s4 => wpAny (model X.prog X.w) X.A (throw (.ref a) : Sem Flow) (SP X pins D) X.xe s4) X.xe { s' with heap := h3 } := by
    rw [hf]
    refine HandSPX.setFlight_upZ L.fl fun h4 held up => wpAny_throw (tk _ _ ⟨a, B, sI, pins, σ, H, cls, d, rfl, L.J, L.nb, L.up.trans up, .inr (.inr (by rw [hs]; exact held)), L.na, L.os, L.ag, w⟩)
  first
    | exact wpAny_bind (wpAny_pure (wpAny_bind last))
    | exact wpAny_bind last
/-- the next clause -/
theorem cls_one {x : Str} {c : Value} {b : Bool} {ts : TS} {st : Stmt} {sts : List Stmt} {p q : Pos} {hds : List ExceptHandler} (hf : X.env.frame = some X.env.locals) (hN : X.N.Nodup) (hi : X.N[i]? = some n) (hln : X.env.kindOf n = some .local) (hc : Names X x c)
    (L : Landed X pins sI s' σ H B h3 a cls d) (hb : PySem.W.exmOne X.K cls c = some b)
    (hsu : ∀ oe, Zc cls d oe → (∃ vs, oe.data = .fields vs) → PSs (X.suite a ((a, oe) :: (X.pn ++ pins))) (st :: sts) ts) (yes : b = true → ts (lessE D i) (σ.set i (some (.ref a))) H)
    (no : b = false → wpAny (model X.prog X.w) X.A (handleBy (.ref a) X.env hds) (SP X pins D) X.xe { s' with heap := h3 }) :
    wpAny (model X.prog X.w) X.A (handleBy (.ref a) X.env (.ExceptHandler (some (.Name x p)) (some n) (st :: sts) q :: hds)) (SP X pins D) X.xe { s' with heap := h3 } := by
  obtain ⟨nL, nF⟩ := L.off hf
  obtain ⟨oe, vs, he, hz, hd⟩ := L.fl.there
  have I3 := L.at_ L.fl.1 (Heap.UpToSlots.refl _)
  have S3 := I3.suite he hd L.na nL nF
  refine wpAny_handleBy_cons (codeAny_handlers_test ?_) (by intro z; cases z)
  have ty : PySem.W.Looks (model X.prog X.w) h3 (typeOf (.ref a)) cls := fun A Q E s k z => wpAny_typeOf_ref (k _ _ he) (by rw [hz.1]; exact z)
  have hit := PySem.W.exm_one (M := model X.prog X.w) I3.kIn ty hb
  have look : ∀ {Q : Value → Shared → Prop} {E : Value → Shared → Prop}, Q c { s' with heap := h3 } → wpAny (model X.prog X.w) (X.A.mark (some (.ref a))) (eval (.Name x p) X.env) Q E { s' with heap := h3 } := fun {Q E} z => by
    obtain ⟨hg, hdb, hm | ⟨hm, hv, hnn⟩⟩ := hc
    · exact ld_glob (X := X.suite a ((a, oe) :: (X.pn ++ pins))) S3 hg hm z hdb
    · exact ld_blt (X := X.suite a ((a, oe) :: (X.pn ++ pins))) S3 hg hm hv z hnn hdb
  refine look (hit.here ?_)
  cases b with
  | false => exact no rfl
  | true =>
    refine codeAny_handlers_suite_as (HandSPX.lands_againZ L.fl fun h4 fl4 up4 => ?_)
    obtain ⟨oe4, vs4, he4, hz4, hd4⟩ := fl4.there
    have S4 := (L.at_ fl4.1 up4).suite he4 hd4 L.na nL nF
    refine store_ok (X := X.suite a ((a, oe4) :: (X.pn ++ pins))) (v := .ref a) S4 hN hi (.inl hln) rfl (fun s5 S5 => ?_) (.inr hln)
    refine wpAny_mono ((hsu oe4 hz4 ⟨_, hd4⟩).run [] s5 _ H _ S5 (yes rfl)) (fun fl s6 h6 => ?_) (fun _ _ z => False.elim z)
    have away : ∀ {σ6 : Sg} {H6 : Hp} {Q : Shared → Prop}, Inv (X.suite a ((a, oe4) :: (X.pn ++ pins))) [] σ6 H6 s6 → (∀ s7, Inv X pins (σ6.set i none) H6 s7 → Q s7) →
        wpAny (model X.prog X.w) X.A (do bindName X.env n .none; unbindBehindTheSuite X.env n q) (fun _ s7 => Q s7) X.xe s6 := fun {σ6 H6 Q} S6 hq => gone_ok (S6.unsuite L.J.ok) hN hi hln hq
    match fl, h6 with
    | .next, ⟨σ6, H6, S6, q6⟩ => exact away S6 fun s7 J7 => ⟨_, _, J7, q6⟩
    | .brk, ⟨σ6, H6, S6, q6⟩ => exact away S6 fun s7 J7 => ⟨_, _, J7, q6⟩
    | .cont, ⟨σ6, H6, S6, q6⟩ => exact away S6 fun s7 J7 => ⟨_, _, J7, q6⟩
    | .ret u, ⟨v6, σ6, H6, S6, r6, q6⟩ => exact away S6 fun s7 J7 => ⟨_, _, _, J7, r6, q6⟩
theorem cls_all {Wout : WX} {hds : List ExceptHandler} {l : List Cl} (hs : X.stack = X.env :: X.outer) (hf : X.env.frame = some X.env.locals) (hN : X.N.Nodup) (hi : X.N[i]? = some n) (hln : X.env.kindOf n = some .local) (tk : Takes X Wout)
    (L : Landed X pins sI s' σ H B h3 a cls d) (k : ClsOk X n hds l) (w : wCls X.K i Wout D l cls d σ H) : wpAny (model X.prog X.w) X.A (handleBy (.ref a) X.env hds) (SP X pins D) X.xe { s' with heap := h3 } := by
  induction k with
  | nil => exact cls_none hs hf tk L w
  | cons hc hsu r ih =>
    obtain ⟨b, hb, yes, no⟩ := w
    exact cls_one hf hN hi hln hc L hb (fun oe z f => hsu a oe cls d _ z f) (fun e => yes e a L.na) fun e => ih (no e)
theorem ps_try_cls {body : List Stmt} {hd : ExceptHandler} {hds : List ExceptHandler} {l : List Cl} {pos : Pos} {tb : WX → TS} {Wout : WX} (hs : X.stack = X.env :: X.outer) (hf : X.env.frame = some X.env.locals) (hN : X.N.Nodup) (hi : X.N[i]? = some n) (hln : X.env.kindOf n = some .local) (tk : Takes X Wout)
    (hb : ∀ (W : WX) (pn : List (Addr × Obj)) (xe : Value → Shared → Prop), Takes (X.tr pn xe) W → PassesOwn (model X.prog X.w) X.A X.env xe → PSs (X.tr pn xe) body (tb W)) (k : ClsOk X n (hd :: hds) l) :
    PS X (.Try body (hd :: hds) [] [] pos) (fun D σ H => tb (wCls X.K i Wout D l) D σ H) := by
  refine ⟨fun pins s σ H D I h => wpAny_Try_except ?_⟩
  have ok := I.ok
  refine wpAny_mono ((hb (wCls X.K i Wout D l) (X.pn ++ pins) _ (fun u s' xx => ?_) PassesOwn.looking).run [] s σ H D (I.toTry _) h) (fun fl s1 q => ?_) (fun e s1 he => he)
  · obtain ⟨a, B, sI, pins', σ', H', cls, d, rfl, J', nb, up, sky, na, os, ag, w⟩ := xx
    rw [show (X.tr (X.pn ++ pins) _).stack = X.env :: X.outer from hs] at sky
    show wpAny (model X.prog X.w) X.A (noteFrame (.ref a) X.env) _ _ _
    exact Sky.land Zc.steady (by rw [ok.frames, hs]) hf sky fun h3 fl3 up3 => cls_all hs hf hN hi hln tk ⟨J'.ofTry ok, nb, up.trans up3, fl3, na, os, ag⟩ k w
  · match fl, q with
    | .next, ⟨σ', H', J', z⟩ => exact wpAny_execs_nil ⟨σ', H', J'.ofTry ok, z⟩
    | .brk, ⟨σ', H', J', z⟩ => exact ⟨σ', H', J'.ofTry ok, z⟩
    | .cont, ⟨σ', H', J', z⟩ => exact ⟨σ', H', J'.ofTry ok, z⟩
    | .ret u, ⟨v, σ', H', J', r, z⟩ => exact ⟨v, σ', H', J'.ofTry ok, r, z⟩
end
/-! ### the classes' names -/
structure ExcNm (k : Kt) (c : Str) : Prop where
  ex : ∃ (C R N N2 : Addr) (q q2 : Str) (bs bs2 bm2 : List Value) (sn sn2 : List Str) (sub sub2 : List Value) (hd2 ab ab2 : Bool) (col col2 : Option Bool) (dd dd2 : Option Addr) (k0 k1 k2 k3 k5 l0 l1 l2 l3 l5 : Option Value) (n1 n2 : String),
    k.mg c = some (.ref C) ∧ k.K.lookup C = some (excClassObj c q C N bs [.ref R, .type "ValueError", .type "Exception", .type "BaseException", .type "object"] true sn sub ab col dd k0 k1 k2 k3 k5 n1) ∧
    k.K.lookup R = some (excClassObj "ReadError" q2 R N2 bs2 bm2 hd2 sn2 sub2 ab2 col2 dd2 l0 l1 l2 l3 l5 n2) ∧ PySem.W.subIn k.K (.ref C) (.type "BaseException") = some true ∧ PySem.W.isClsIn k.K C = true ∧ PySem.W.typeIn k.K (.ref C) = some (.type "type")
theorem exm_not {k : Kt} {c x : Str} {C X : Addr} (A : ExcNm k c) (B : ExcNm k x) (hC : k.mg c = some (.ref C)) (hX : k.mg x = some (.ref X)) (h : x ≠ c) (hr : x ≠ "ReadError") : PySem.W.exmOne k.K (.ref C) (.ref X) = some false := by
  obtain ⟨C2, R, N, N2, q, q2, bs, bs2, bm2, sn, sn2, sub, sub2, hd2, ab, ab2, col, col2, dd, dd2, k0, k1, k2, k3, k5, l0, l1, l2, l3, l5, n1, n2, m1, e1, e2, _, _, _⟩ := A.ex
  obtain ⟨X2, S, M, M2, p, p2, as, as2, am2, rn, rn2, tub, tub2, gd2, bb, bb2, dol, dol2, ee, ee2, i0, i1, i2, i3, i5, j0, j1, j2, j3, j5, o1, o2, m2, f1, f2, f3, f4, f5⟩ := B.ex
  rw [hC] at m1
  cases m1
  rw [hX] at m2
  cases m2
  have ne1 : X ≠ C := fun z => by
    subst z
    rw [e1] at f1
    have z := congrArg (fun o : Option Obj => match o with | some ⟨_, _, .cls cd, _⟩ => cd.name | _ => c) f1
    exact h z.symm
  have ne2 : X ≠ R := fun z => by
    subst z
    rw [e2] at f1
    have z := congrArg (fun o : Option Obj => match o with | some ⟨_, _, .cls cd, _⟩ => cd.name | _ => c) f1
    exact hr z.symm
  have hc : PySem.W.clsIn k.K C = some { name := c, bases := bs, mro := .ref C :: [.ref R, .type "ValueError", .type "Exception", .type "BaseException", .type "object"], ns := N, qualname := q, hasDict := true, slotNames := sn, subclasses := sub, abstract := ab, collection := col, hasDel := false } := by
    unfold PySem.W.clsIn
    rw [e1]
  have sub : PySem.W.subIn k.K (.ref C) (.ref X) = some false := by
    show PySem.W.mroIn k.K C (.ref X) = some false
    unfold PySem.W.mroIn
    rw [hc, Option.bind_some, if_neg (by simp)]
    congr 1
    rw [List.contains_eq_any_beq]
    have b1 : (Value.ref X == Value.ref C) = false := by simpa using ne1
    have b2 : (Value.ref X == Value.ref R) = false := by simpa using ne2
    simp [b1, b2, ne1, ne2]
  have b1 : (PySem.W.subIn k.K (.ref X) (.type "BaseException") == some true) = true := by rw [f3]; rfl
  have b2 : ((PySem.W.clsIn k.K X).isSome && PySem.W.typeIn k.K (.ref X) == some (.type "type")) = true := by
    have z : (PySem.W.clsIn k.K X).isSome = true := f4
    rw [z, f5]
    rfl
  unfold PySem.W.exmOne
  rw [if_pos b1]
  unfold PySem.W.kitCls
  first
    | (rw [if_pos b2]; exact sub)
    | (simp only [b2, if_true]; exact sub)
/-! ### what a clause's suite tells -/
inductive Iu where
  | cst (d : D)
  | fld (f : Str)
  | rep (f : Str)
def repD (d : D) : Option D := match cst deep d with
  | some c => if c ≤ 16000000 then some (.str (shD d)) else none
  | none => none
def iuF (fs : List (Str × D)) : Iu → Option D
  | .cst d => some d
  | .fld f => fs.lookup f
  | .rep f => (fs.lookup f).bind repD
def iusF (fs : List (Str × D)) : List Iu → Option (List D)
  | [] => some []
  | i :: r => match iuF fs i, iusF fs r with
    | some d, some l => some (d :: l)
    | _, _ => none
def SU (C : Ctx) (c : Str) (i : Nat) (e : Expr) (it : Iu) : Prop := ∀ (a : Addr) (cls : Value) (d : Option Addr), ∃ t : TE, (∀ X, CtxOk C X → ∀ oe pn, Zc cls d oe → (∃ vs, oe.data = .fields vs) → PE (X.suite a ((a, oe) :: pn)) e t) ∧
  ∀ (w : Wd) (σ : Sg) (Q : VK) (fs : List (Str × D)) (dv : D), Wok w → Xr C.k w cls d c fs → σ[i]? = some (some (.ref a)) → iuF fs it = some dv → (∀ v, Rv C.k.K w v dv → Q v w.H) → t σ w.H Q
def SUs (C : Ctx) (c : Str) (i : Nat) (es : List Expr) (its : List Iu) : Prop := ∀ (a : Addr) (cls : Value) (d : Option Addr), ∃ t : TA, (∀ X, CtxOk C X → ∀ oe pn, Zc cls d oe → (∃ vs, oe.data = .fields vs) → PA (X.suite a ((a, oe) :: pn)) es t) ∧
  ∀ (w : Wd) (σ : Sg) (Q : List V → Hp → Prop) (fs : List (Str × D)) (l : List D), Wok w → Xr C.k w cls d c fs → σ[i]? = some (some (.ref a)) → iusF fs its = some l → (∀ vs, RvL C.k.K w vs l → Q vs w.H) → t σ w.H Q
section
variable {C : Ctx} {c : Str} {i : Nat} {e : Expr} {es : List Expr} {p pos : Pos} {it : Iu} {its : List Iu} {gs : List Str}
theorem su_c {v : V} {d : D} (hp : ∀ X : Cx, PE X e (tC v)) (r : ∀ w, Rv C.k.K w v d) : SU C c i e (.cst d) := fun a cls dd =>
  ⟨tC v, fun X h oe pn z f => hp _, fun w σ Q fs dv o x e h q => by
    have h : some d = some dv := h
    cases h
    exact q v (r w)⟩
theorem su_str {x : Str} {j : Nat} : SU C c i (.Constant (.str x) j pos) (.cst (.str x)) := su_c (fun X => pe_str) fun _ => .str x
theorem su_int {n : Int} {j : Nat} : SU C c i (.Constant (.int n) j pos) (.cst (.int n)) := su_c (fun X => pe_int) fun _ => .int n
theorem su_bl {n : Bool} {j : Nat} : SU C c i (.Constant (.bool n) j pos) (.cst (.bl n)) := su_c (fun X => pe_bl) fun _ => .bl n
theorem su_non {j : Nat} : SU C c i (.Constant .none j pos) (.cst .non) := su_c (fun X => pe_non) fun _ => .non
theorem su_fld {f n : Str} (E : ExcAt C.P C.w C.k c gs) (hf : f ∈ gs := by simp) (hN : C.N[i]? = some n := by rfl) (hv : visB C.sc n = true := by rfl) (hd : (n == ("__debug__" : Str)) = false := by decide +kernel) (hcd : (n == ("__classdict__" : Str)) = false := by decide +kernel)
    (hb : ∀ env, attributeBase (.Name n p) f env (eval (.Name n p) env) = eval (.Name n p) env := by intro _; rfl) : SU C c i (.Attribute (.Name n p) f pos) (.fld f) := fun a cls d => by
  obtain ⟨t, q, v⟩ := se_fld (i := i) (pos := pos) E hf hN hv hd hcd hb a cls d
  exact ⟨t, q, fun w σ Q fs dv o x es h k => v w σ Q fs dv x es h k⟩
theorem su_rep {f n : Str} {p2 pos2 : Pos} (E : ExcAt C.P C.w C.k c gs) (hm : C.k.mg "repr" = none) (hf : f ∈ gs := by simp) (hN : C.N[i]? = some n := by rfl) (hv : visB C.sc n = true := by rfl) (hd : (n == ("__debug__" : Str)) = false := by decide +kernel) (hcd : (n == ("__classdict__" : Str)) = false := by decide +kernel)
    (hb : ∀ env, attributeBase (.Name n p) f env (eval (.Name n p) env) = eval (.Name n p) env := by intro _; rfl) (hg : glB C.sc "repr" = true := by rfl) (ns : NoStar (.Attribute (.Name n p) f pos) [] := by intro _; rfl) :
    SU C c i (.Call (.Name "repr" p2) [.Attribute (.Name n p) f pos] [] pos2) (.rep f) := fun a cls d => by
  obtain ⟨t, q, v⟩ := se_fld (i := i) (pos := pos) E hf hN hv hd hcd hb a cls d
  refine ⟨tCB (rRepr C.k.K) (tCons t tNil), fun X h oe pn z f => ?_, fun w σ Q fs dv o x es h k => ?_⟩
  · rw [← h.K]
    exact pe_callB (X := X.suite a ((a, oe) :: pn)) (call_repr (X := X.suite a ((a, oe) :: pn)) h.gd h.u65) (h.gl hg) (by show X.mg "repr" = none; rw [h.mg]; exact hm) bt_repr (pa_cons (q X h oe pn z f) pa_nil (ns _)) (by decide +kernel) (by decide +kernel) (ns _) rfl
  · obtain ⟨dv0, h1, h2⟩ := Option.bind_eq_some_iff.mp h
    refine v w σ _ fs dv0 x es h1 fun v0 r0 => ?_
    unfold repD at h2
    split at h2
    · rename_i cc hc
      split at h2
      · rename_i z
        cases h2
        obtain ⟨a1, a2, a3, a4, a5⟩ := cst_ok deep dv0 cc hc
        have bd : Dp C.k.K w.H v0 dv0.py := (show Bv C.k.K w v0 dv0 from .inl r0).dp o a5
        exact ⟨v0, dv0.py, rfl, bd, a1, a2, a3, Nat.le_trans a4 (Nat.le_trans z (by rw [sizeLine_eq]; decide)), k _ (.str _)⟩
      · cases h2
    · cases h2
theorem sus_nil : SUs C c i [] [] := fun a cls d => ⟨tNil, fun X h oe pn z f => pa_nil, fun w σ Q fs l o x es h q => by cases h; exact q [] .nil⟩
theorem sus_cons (ha : SU C c i e it) (hr : SUs C c i es its) (hs : NoStar e es := by intro _; rfl) : SUs C c i (e :: es) (it :: its) := fun a cls d => by
  obtain ⟨t, p1, v1⟩ := ha a cls d
  obtain ⟨u, p2, v2⟩ := hr a cls d
  refine ⟨tCons t u, fun X h oe pn z f => pa_cons (p1 X h oe pn z f) (p2 X h oe pn z f) (hs _), fun w σ Q fs l o x es h q => ?_⟩
  unfold iusF at h
  split at h
  · rename_i dv l' h1 h2
    cases h
    exact v1 w σ _ fs dv o x es h1 fun v r => v2 w σ _ fs l' o x es h2 fun vs rs => q (v :: vs) (.cons r rs)
  · cases h
end
/-- the whole value: an item, or a tuple of items -/
inductive Tp where
  | one (x : Iu)
  | tup (l : List Iu)
def tpF (fs : List (Str × D)) : Tp → Option D
  | .one x => iuF fs x
  | .tup l => match iusF fs l with
    | some r => if r.length ≤ lim then some (.tup r) else none
    | none => none
def ST (C : Ctx) (c : Str) (i : Nat) (e : Expr) (it : Tp) : Prop := ∀ (a : Addr) (cls : Value) (d : Option Addr), ∃ t : TE, (∀ X, CtxOk C X → ∀ oe pn, Zc cls d oe → (∃ vs, oe.data = .fields vs) → PE (X.suite a ((a, oe) :: pn)) e t) ∧
  ∀ (w : Wd) (σ : Sg) (Q : VK) (fs : List (Str × D)) (dv : D), Wok w → Xr C.k w cls d c fs → σ[i]? = some (some (.ref a)) → tpF fs it = some dv → (∀ v w', Grow w w' → Wok w' → w'.g = w.g → Rv C.k.K w' v dv → Q v w'.H) → t σ w.H Q
section
variable {C : Ctx} {c : Str} {i : Nat} {e : Expr} {es : List Expr} {p pos : Pos} {it : Iu} {its : List Iu} {kt : Nat}
theorem st_one (h : SU C c i e it) : ST C c i e (.one it) := fun a cls d => by
  obtain ⟨t, q, v⟩ := h a cls d
  exact ⟨t, q, fun w σ Q fs dv o x es h k => v w σ Q fs dv o x es h fun v r => k v w (.refl w) o rfl r⟩
theorem st_tup (h : SUs C c i es its) : ST C c i (.Tuple es kt pos) (.tup its) := fun a cls d => by
  obtain ⟨t, q, v⟩ := h a cls d
  refine ⟨_, fun X h oe pn z f => pe_tupN (q X h oe pn z f), fun w σ Q fs dv o x es h k => ?_⟩
  replace h : (match iusF fs its with
    | some r => if r.length ≤ lim then some (D.tup r) else none
    | none => none) = some dv := h
  cases hl : iusF fs its with
  | none => rw [hl] at h; cases h
  | some l =>
    rw [hl] at h
    by_cases hz : l.length ≤ lim
    · replace h : some (D.tup l) = some dv := by
        rw [← h]
        exact (if_pos hz).symm
      cases h
      refine v w σ _ fs l o x es hl fun vs r => ⟨by rw [r.length]; exact Nat.le_trans hz lim_le, fun p ob hp hd => ?_⟩
      have T := To.lay (u := .frz ob (.tup vs)) o hp
      exact k (.ref p) _ T.gr T.ok T.g (.tup (.inl ⟨ob, upd_same, hd⟩) (r.mono (.put (none_of_sub o hp))))
    · replace h : (none : Option D) = some dv := by
        rw [← h]
        exact (if_neg hz).symm
      cases h
end
def tryF (i j : Nat) (c : Str) (fs : List (Str × D)) (ρ : Env) (g : G) : List (Str × Tp) → Re Out
  | [] => .bad
  | (x, t) :: r => if x = c then (match tpF fs t with
    | some d => .ok (.nx (((ρ.set i .no).set j (.im d)).set i .no)) g
    | none => .bad) else tryF i j c fs ρ g r
def sTryC (i j : Nat) (cl : List (Str × Tp)) (f : Ms) : Ms := fun ρ g => match f ρ g with
  | .ex c fs ρ' g' => if i < ρ'.length then tryF i j c fs ρ' g' cl else .bad
  | y => y
/-- the clauses of a statement -/
inductive ClD (C : Ctx) (n x : Str) (i : Nat) : List ExceptHandler → List (Str × Tp) → Prop
  | nil : ClD C n x i [] []
  | cons {c : Str} {gs : List Str} {e : Expr} {t : Tp} {np xp ap hp : Pos} {hds : List ExceptHandler} {l : List (Str × Tp)} (E : ExcAt C.P C.w C.k c gs) (A : ExcNm C.k c) (h : ST C c i e t) (r : ClD C n x i hds l) (hr : c ≠ "ReadError") (hg : glB C.sc c = true) (hdb : (c == ("__debug__" : Str)) = false)
      (hs : ∀ env, env.scope = C.sc → swapsWith e (some (.Name x xp)) ap.line env = pure false) : ClD C n x i (.ExceptHandler (some (.Name c np)) (some n) [.Assign [.Name x xp] e ap] hp :: hds) ((c, t) :: l)
theorem cl_cons {C : Ctx} {n x : Str} {i : Nat} {c : Str} {gs : List Str} {e : Expr} {t : Tp} {np xp ap hp : Pos} {hds : List ExceptHandler} {l : List (Str × Tp)} (E : ExcAt C.P C.w C.k c gs) (A : ExcNm C.k c) (h : ST C c i e t) (r : ClD C n x i hds l) (hr : c ≠ "ReadError" := by decide +kernel) (hg : glB C.sc c = true := by rfl) (hdb : (c == ("__debug__" : Str)) = false := by decide +kernel)
    (hs : ∀ env, env.scope = C.sc → swapsWith e (some (.Name x xp)) ap.line env = pure false := by intro _ _; rfl) : ClD C n x i (.ExceptHandler (some (.Name c np)) (some n) [.Assign [.Name x xp] e ap] hp :: hds) ((c, t) :: l) := .cons E A h r hr hg hdb hs
/-- .. as readings -/
theorem cls_read {C : Ctx} {n x : Str} {i j : Nat} {hds : List ExceptHandler} {l : List (Str × Tp)} (k : ClD C n x i hds l) (hN : C.N[i]? = some n) (hM : C.N[j]? = some x) (hx : C.sc.names.lookup x = some .local) :
    ∃ L : List Cl, (∀ X, CtxOk C X → ClsOk X n hds L) ∧ ∀ (w0 w' : Wd) (σ' : Sg) (ρ' : Env) (Ed : Ends) (c : Str) (fs : List (Str × D)) (cls : Value) (od : Option Addr), ExcNm C.k c → i < ρ'.length → Rel C.k.K w0 w' ρ' σ' → Xr C.k w' cls od c fs → PoS C w0 w' Ed (tryF i j c fs ρ' w'.g l) → wCls C.k.K i C.W Ed L cls od σ' w'.H := by
  induction k with
  | nil => exact ⟨[], fun X h => .nil, fun w0 w' σ' ρ' Ed c fs cls od A hi R x k => k.elim⟩
  | @cons c gs e t np xp ap hp hds l E A h r hr hg hdb hs ih =>
    obtain ⟨L, h1, h2⟩ := ih
    obtain ⟨Ca, fI, fd, hm, Tx, iC, tI, F1, hbd, xf, hno, te⟩ := E.ex
    let ts : Addr → Value → Option Addr → TS := fun a cls d => tAsg (h a cls d).choose (gName j)
    refine ⟨(.ref Ca, ts) :: L, fun X q => .cons ⟨q.gl hg, hdb, .inl (by rw [q.mg]; exact hm)⟩ (fun a oe cls d pn z f => pss_one (ps_set (X := X.suite a ((a, oe) :: pn)) q.nd (by show X.N[j]? = _; rw [q.N]; exact hM) (.inl (by show X.env.scope.names.lookup x = _; rw [q.sc]; exact hx)) ((h a cls d).choose_spec.1 X q oe pn z f) (hs _ q.sc) (.inr (by show X.env.scope.names.lookup x = _; rw [q.sc]; exact hx)))) (h1 X q), fun w0 w' σ' ρ' Ed c2 fs cls od A2 hi R xr k => ?_⟩
    obtain ⟨C2, hm2, ec, dd, fv, ed, hdd, m1, m2⟩ := id xr
    subst ec
    unfold tryF at k
    by_cases hc : c = c2
    · subst hc
      rw [if_pos rfl] at k
      rw [hm] at hm2
      cases hm2
      cases ht : tpF fs t with
      | none => rw [ht] at k; exact k.elim
      | some dv =>
        rw [ht] at k
        refine ⟨true, te, fun _ a na => ?_, fun q => by cases q⟩
        refine (h a (.ref Ca) od).choose_spec.2 w' (σ'.set i (some (.ref a))) _ fs dv R.ok xr (by rw [List.getElem?_set_self (by rw [← R.ln]; exact hi)]) ht fun v w2 gr ok eg rv => ?_
        have R2 := (((R.gone i (some (V.ref a))).step gr ok).setIm j rv).gone i none
        exact k w2 _ gr.zl eg R2
    · rw [if_neg hc] at k
      exact ⟨false, exm_not A2 A hm2 hm hc hr, (fun q => by cases q), fun _ => h2 w0 w' σ' ρ' Ed c2 fs (.ref C2) od A2 hi R xr k⟩
/-- what a found clause says of the class -/
theorem tryF_nm {C : Ctx} {n x : Str} {i j : Nat} {c : Str} {fs : List (Str × D)} {ρ : Env} {g : G} {w0 w : Wd} {Ed : Ends} {hds : List ExceptHandler} {l : List (Str × Tp)} (k : ClD C n x i hds l) (h : PoS C w0 w Ed (tryF i j c fs ρ g l)) : ExcNm C.k c := by
  induction k with
  | nil => exact h.elim
  | @cons c2 gs e t np xp ap hp hds l E A q r hr hg hdb hs ih =>
    by_cases hc : c2 = c
    · subst hc; exact A
    · unfold tryF at h
      rw [if_neg hc] at h
      exact ih h
section
variable {C : Ctx} {n x : Str} {i j : Nat} {hd : ExceptHandler} {hds : List ExceptHandler} {cl : List (Str × Tp)} {body : List Stmt} {f : Ms} {pos : Pos}
theorem ds_tryC (i j : Nat) (hb : ∀ W : WX, DSs { C with W := W } body f) (k : ClD C n x i (hd :: hds) cl) (ht : C.top = true := by rfl) (hN : C.N[i]? = some n := by rfl) (hn : C.sc.names.lookup n = some .local := by rfl) (hM : C.N[j]? = some x := by rfl) (hx : C.sc.names.lookup x = some .local := by rfl) :
    DS C (.Try body (hd :: hds) [] [] pos) (sTryC i j cl f) := by
  obtain ⟨L, h1, h2⟩ := cls_read (j := j) k hN hM hx
  let tb : WX → TS := fun W => (hb W).choose
  have tb1 : ∀ W X, CtxOk { C with W := W } X → PSs X body (tb W) := fun W => (hb W).choose_spec.1
  have tb2 : ∀ W, EvS { C with W := W } (tb W) f := fun W => (hb W).choose_spec.2
  refine ⟨fun D σ H => tb (wCls C.k.K i C.W D L) D σ H, fun X h => ?_, ⟨fun w0 w ρ σ Ed R q => ?_⟩⟩
  · rw [← h.K]
    exact ps_try_cls (tb := tb) (h.top ht).1 (h.top ht).2 h.nd (by rw [h.N]; exact hN) (by show X.env.scope.names.lookup n = _; rw [h.sc]; exact hn) h.tk (fun W pn xe tk pa => tb1 W _ ⟨h.P, h.w, h.K, h.mg, h.base, h.N, h.nd, h.sc, h.calm, h.room, h.gd, tk, pa, h.fn, h.top⟩) (h1 X h)
  · refine (tb2 (wCls C.k.K i C.W Ed L)).run w0 w ρ σ Ed R ?_
    unfold sTryC at q
    generalize f ρ w.g = y at q ⊢
    match y, q with
    | .ok (.nx ρ') g', q => exact q
    | .ok (.bk ρ') g', q => exact q
    | .ok (.ct ρ') g', q => exact q
    | .ok (.rt d) g', q => exact q
    | .bad, q => exact q
    | .ex c' fs ρ' g', q =>
      intro w' σ' cls od zl eg R' xr
      obtain ⟨hi, q2⟩ := PoS.ite (p := i < ρ'.length) (a := tryF i j c' fs ρ' g' cl) q
      have A := tryF_nm k q2
      subst eg
      exact h2 w0 w' σ' ρ' Ed c' fs cls od A hi R' xr (PoS.lift q2 zl)
end
end Dl
set_option linter.all false
set_option maxRecDepth 100000
set_option maxHeartbeats 1000000
namespace Dl
open PySem L2
/-! ### the combinators, evaluated -/
section
variable {α β γ : Type} {ρ : Env} {g : G}
@[simp] theorem bind_ok (a : α) (g : G) (f : α → G → Re β) : (Re.ok a g).bind f = f a g := rfl
@[simp] theorem bind_ex (c : Str) (fs : List (Str × D)) (r : Env) (g : G) (f : α → G → Re β) : (Re.ex c fs r g : Re α).bind f = .ex c fs r g := rfl
@[simp] theorem bind_bad (f : α → G → Re β) : (Re.bad : Re α).bind f = .bad := rfl
@[simp] theorem bindS_ok (a : α) (g : G) (ρ : Env) (f : α → G → Re Out) : (Re.ok a g).bindS ρ f = f a g := rfl
@[simp] theorem bindS_ex (c : Str) (fs : List (Str × D)) (r : Env) (g : G) (ρ : Env) (f : α → G → Re Out) : (Re.ex c fs r g : Re α).bindS ρ f = .ex c fs ρ g := rfl
@[simp] theorem bindS_bad (ρ : Env) (f : α → G → Re Out) : (Re.bad : Re α).bindS ρ f = .bad := rfl
@[simp] theorem nox_ok (a : α) (g : G) : (Re.ok a g).nox = .ok a g := rfl
@[simp] theorem mapRe_ok (F : α → β) (a : α) (g : G) : mapRe F (.ok a g) = .ok (F a) g := rfl
@[simp] theorem thn_nx (ρ : Env) (g : G) (h : Ms) : (Re.ok (.nx ρ) g).thn h = h ρ g := rfl
@[simp] theorem thn_rt (d : D) (g : G) (h : Ms) : (Re.ok (.rt d) g).thn h = .ok (.rt d) g := rfl
@[simp] theorem thn_bk (ρ : Env) (g : G) (h : Ms) : (Re.ok (.bk ρ) g).thn h = .ok (.bk ρ) g := rfl
@[simp] theorem thn_ct (ρ : Env) (g : G) (h : Ms) : (Re.ok (.ct ρ) g).thn h = .ok (.ct ρ) g := rfl
@[simp] theorem turn_nx (ρ : Env) (g : G) (ks : List Nat) (h : Ms) : (Re.ok (.nx ρ) g).turn ks h = h (kill ks ρ) g := rfl
@[simp] theorem turn_ct (ρ : Env) (g : G) (ks : List Nat) (h : Ms) : (Re.ok (.ct ρ) g).turn ks h = h (kill ks ρ) g := rfl
@[simp] theorem turn_bk (ρ : Env) (g : G) (ks : List Nat) (h : Ms) : (Re.ok (.bk ρ) g).turn ks h = .ok (.nx (kill ks ρ)) g := rfl
@[simp] theorem turn_rt (d : D) (g : G) (ks : List Nat) (h : Ms) : (Re.ok (.rt d) g).turn ks h = .ok (.rt d) g := rfl
@[simp] theorem fin_rt (d : D) (g : G) : fin (.ok (.rt d) g) = .ok d g := rfl
@[simp] theorem fin_nx (ρ : Env) (g : G) : fin (.ok (.nx ρ) g) = .ok .non g := rfl
@[simp] theorem e_C (d : D) : eC d ρ g = .ok d g := rfl
theorem e_Var (i : Nat) (d : D) (h : ρ[i]? = some (.im d)) : eVar i ρ g = .ok d g := by unfold eVar; rw [h]
@[simp] theorem e_Op {F : D → D → G → Re γ} (fa fb : Me D) : eOp F fa fb ρ g = (fa ρ g).bind fun x g => (fb ρ g).bind fun y g => F x y g := rfl
@[simp] theorem e_Un {F : D → G → Re γ} (fa : Me D) : eUn F fa ρ g = (fa ρ g).bind fun x g => F x g := rfl
@[simp] theorem e_Args {F : List D → G → Re γ} (fs : Me (List D)) : eArgs F fs ρ g = (fs ρ g).bind F := rfl
@[simp] theorem e_Call (n : Nat) (Φ : List D → G → Re D) (fs : Me (List D)) : eCall n Φ fs ρ g = (fs ρ g).bind fun l g => if l.length = n then Φ l g else .bad := rfl
@[simp] theorem a_Nil : aNil ρ g = .ok [] g := rfl
@[simp] theorem a_Cons (fa : Me D) (fs : Me (List D)) : aCons fa fs ρ g = (fa ρ g).bind fun x g => (fs ρ g).bind fun l g => .ok (x :: l) g := rfl
@[simp] theorem e_Tup (fs : Me (List D)) : eTup fs ρ g = (fs ρ g).bind fun l g => if l.length ≤ lim then .ok (.tup l) g else .bad := rfl
@[simp] theorem e_List (fs : Me (List D)) : eList fs ρ g = (fs ρ g).bind fun l g => if l.length ≤ lim then .ok l g else .bad := rfl
@[simp] theorem e_Lst (f : Me (List D)) : eLst f ρ g = mapRe D.lst (f ρ g) := rfl
@[simp] theorem e_Meth {T : D → Bool} {F : D → List D → G → Re γ} (fa : Me D) (fs : Me (List D)) : eMeth T F fa fs ρ g = (fa ρ g).bind fun x g => if T x = true then (fs ρ g).bind fun l g => F x l g else .bad := rfl
@[simp] theorem e_asB (f : Me D) : asB f ρ g = (f ρ g).bind fun x g => match x with
  | .bl b => .ok b g
  | _ => .bad := rfl
@[simp] theorem e_Tru (f : Me D) : eTru f ρ g = (f ρ g).bind fun x g => op (truD x) g := rfl
@[simp] theorem e_AndM (ga gb : Me Bool) : tAndM ga gb ρ g = (ga ρ g).bind fun x g => if x = true then gb ρ g else .ok false g := rfl
@[simp] theorem e_OrM (ga gb : Me Bool) : tOrM ga gb ρ g = (ga ρ g).bind fun x g => if x = true then .ok true g else gb ρ g := rfl
@[simp] theorem e_NotM (ga : Me Bool) : tNotM ga ρ g = (ga ρ g).bind fun x g => .ok (!x) g := rfl
@[simp] theorem e_Not (fa : Me D) : eNot fa ρ g = (fa ρ g).bind fun x g => bD ((truD x).map Bool.not) g := rfl
@[simp] theorem e_And (fa fb : Me D) : eAnd fa fb ρ g = (fa ρ g).bind fun x g => (op (truD x) g).bind fun k g => if k = true then fb ρ g else .ok x g := rfl
@[simp] theorem e_Or (fa fb : Me D) : eOr fa fb ρ g = (fa ρ g).bind fun x g => (op (truD x) g).bind fun k g => if k = true then .ok x g else fb ρ g := rfl
@[simp] theorem e_If (gc : Me Bool) (f h : Me γ) : eIf gc f h ρ g = (gc ρ g).bind fun x g => if x = true then f ρ g else h ρ g := rfl
@[simp] theorem e_Chain (F H : D → D → G → Re D) (fa fb fc : Me D) : eChain F H fa fb fc ρ g = (fa ρ g).bind fun x g => (fb ρ g).bind fun y g => (F x y g).bind fun z g => match z with
  | .bl true => (fc ρ g).bind fun w g => H y w g
  | .bl false => .ok (.bl false) g
  | _ => .bad := rfl
@[simp] theorem e_Is (T : String) (fa : Me D) : eIs T fa ρ g = (fa ρ g).bind fun x g => bD (isT T x) g := rfl
@[simp] theorem e_oNone : oNone ρ g = .ok none g := rfl
@[simp] theorem e_oSome (fa : Me D) : oSome fa ρ g = (fa ρ g).bind fun x g => match x with
  | .int i => .ok (some i) g
  | _ => .bad := rfl
@[simp] theorem e_Sl {F : D → Option Int → Option Int → G → Re γ} (fa : Me D) (fl fh : Me (Option Int)) : eSl F fa fl fh ρ g = (fa ρ g).bind fun x g => (fl ρ g).bind fun lo g => (fh ρ g).bind fun hi g => F x lo hi g := rfl
@[simp] theorem s_Nil : sNil ρ g = .ok (.nx ρ) g := rfl
@[simp] theorem s_Seq (f h : Ms) : sSeq f h ρ g = (f ρ g).thn h := rfl
@[simp] theorem s_Expr (fe : Me α) : sExpr fe ρ g = (fe ρ g).bindS ρ fun _ g => .ok (.nx ρ) g := rfl
@[simp] theorem s_Ret (fe : Me D) : sRet fe ρ g = (fe ρ g).bindS ρ fun d g => .ok (.rt d) g := rfl
@[simp] theorem s_RetN : sRetN ρ g = .ok (.rt .non) g := rfl
@[simp] theorem s_Brk : sBrk ρ g = .ok (.bk ρ) g := rfl
@[simp] theorem s_Cnt : sCnt ρ g = .ok (.ct ρ) g := rfl
@[simp] theorem s_If (gc : Me Bool) (f h : Ms) : sIf gc f h ρ g = (gc ρ g).bindS ρ fun b g => if b = true then f ρ g else h ρ g := rfl
@[simp] theorem s_Set (i : Nat) (fe : Me D) : sSet i fe ρ g = (fe ρ g).bindS ρ fun d g => .ok (.nx (ρ.set i (.im d))) g := rfl
@[simp] theorem s_Own (i : Nat) (fe : Me (List D)) : sOwn i fe ρ g = (fe ρ g).bindS ρ fun l g => .ok (.nx (ρ.set i (.ow l))) g := rfl
@[simp] theorem s_Asg (fe : Me D) (b : D → Env → Option Env) : sAsg fe b ρ g = (fe ρ g).bindS ρ fun d g => match b d ρ with
  | some ρ' => .ok (.nx ρ') g
  | none => .bad := rfl
@[simp] theorem z_Nil : zNil ρ g = .ok [] g := rfl
@[simp] theorem z_Im (fe : Me D) (fs : Me (List Sl)) : zIm fe fs ρ g = (fe ρ g).bind fun x g => (fs ρ g).bind fun l g => .ok (.im x :: l) g := rfl
@[simp] theorem z_Ow (fe : Me (List D)) (fs : Me (List Sl)) : zOw fe fs ρ g = (fe ρ g).bind fun x g => (fs ρ g).bind fun l g => .ok (.ow x :: l) g := rfl
@[simp] theorem s_Par (i j : Nat) (fs : Me (List Sl)) : sPar i j fs ρ g = (fs ρ g).bindS ρ fun l g => match l with
  | [s, t] => .ok (.nx ((ρ.set i s).set j t)) g
  | _ => .bad := rfl
@[simp] theorem s_For (fi : Me (List Yd)) (b : Yd → Env → Option Env) (ks : List Nat) (f : Ms) : sFor fi b ks f ρ g = (fi ρ g).bindS ρ fun ys g => loopF b ks f ys (kill ks ρ) g := rfl
@[simp] theorem kill_nil : kill [] ρ = ρ := rfl
@[simp] theorem kill_cons (v : Nat) (vs : List Nat) : kill (v :: vs) ρ = (kill vs ρ).set v .no := rfl
@[simp] theorem b_Name (i : Nat) (d : D) : bName i d ρ = some (ρ.set i (.im d)) := rfl
@[simp] theorem b_Nil : bNil [] ρ = some ρ := rfl
@[simp] theorem b_Cons (b : D → Env → Option Env) (c : List D → Env → Option Env) (d : D) (r : List D) : bCons b c (d :: r) ρ = match b d ρ with
  | some ρ' => c r ρ'
  | none => none := rfl
@[simp] theorem b_Tup (n : Nat) (c : List D → Env → Option Env) (l : List D) : bTup n c (.tup l) ρ = if l.length = n then c l ρ else none := rfl
@[simp] theorem b_One (b : D → Env → Option Env) (d : D) : bOne b (.one d) ρ = b d ρ := rfl
@[simp] theorem b_Many (n : Nat) (c : List D → Env → Option Env) (l : List D) : bMany n c (.many l) ρ = if l.length = n then c l ρ else none := rfl
@[simp] theorem y_Val (fa : Me D) : yVal fa ρ g = (fa ρ g).bind fun x g => op ((itemsD x).map fun l => l.map Yd.one) g := rfl
@[simp] theorem y_R1 (fs : Me (List D)) : yR1 fs ρ g = (fs ρ g).bind fun l g => match l with
  | [.int j] => if smallI j = true then .ok (rgD 0 1 j.toNat) g else .bad
  | _ => .bad := rfl
@[simp] theorem y_R2 (fs : Me (List D)) : yR2 fs ρ g = (fs ρ g).bind fun l g => match l with
  | [.int i, .int j] => if (j - i).toNat ≤ lim then .ok (rgD i 1 (j - i).toNat) g else .bad
  | _ => .bad := rfl
@[simp] theorem y_En (fs : Me (List D)) : yEn fs ρ g = (fs ρ g).bind fun l g => match l with
  | [x] => op ((itemsD x).map (enD 0)) g
  | _ => .bad := rfl
@[simp] theorem e_Comp (fi : Me (List Yd)) (vs : List Nat) (b : Yd → Env → Option Env) (tm : Me Bool) (el : Me D) : eComp fi vs b tm el ρ g = (fi ρ g).bind fun ys g => if ys.length ≤ lim then compF b tm el (kill vs ρ) ys g else .bad := rfl
@[simp] theorem op_some (a : α) (g : G) : op (some a) g = .ok a g := rfl
@[simp] theorem tm_Yes : tmYes ρ g = .ok true g := rfl
@[simp] theorem items_tup (l : List D) : itemsD (.tup l) = some l := rfl
@[simp] theorem items_lst (l : List D) : itemsD (.lst l) = some l := rfl
@[simp] theorem items_scr (l : List Int) : itemsD (.scr l) = some (l.map D.int) := rfl
@[simp] theorem frzM_eq (i : Nat) (f : Ms) : frzM i f ρ g = f (frzS i ρ) g := rfl
@[simp] theorem ar_int (f : Int → Int → Option Int) (i j : Int) : arI f (.int i) (.int j) g = op ((f i j).map D.int) g := rfl
@[simp] theorem sub_I (i j : Int) : subI i j = some (i - j) := rfl
@[simp] theorem plus_I (i j : Int) : plusI i j = some (i + j) := rfl
@[simp] theorem add_int (i j : Int) : addD (.int i) (.int j) g = .ok (.int (i + j)) g := rfl
@[simp] theorem mul_int (i j : Int) : mulD (.int i) (.int j) g = op ((mulI i j).map D.int) g := rfl
@[simp] theorem cm_int (f : Int → Int → Bool) (i j : Int) : cmI f (.int i) (.int j) g = .ok (.bl (f i j)) g := rfl
@[simp] theorem len_tup (l : List D) : lenF [.tup l] g = .ok (.int l.length) g := rfl
@[simp] theorem len_lst (l : List D) : lenF [.lst l] g = .ok (.int l.length) g := rfl
@[simp] theorem int_int (i : Int) : intF [.int i] g = .ok (.int i) g := rfl
@[simp] theorem int_bl (b : Bool) : intF [.bl b] g = .ok (.int (if b then 1 else 0)) g := rfl
@[simp] theorem tup_tup (l : List D) : tupF [.tup l] g = .ok (.tup l) g := rfl
@[simp] theorem tup_lst (l : List D) : tupF [.lst l] g = .ok (.tup l) g := rfl
@[simp] theorem sum_ints (ns : List Int) : sumF [.lst (ns.map D.int)] g = .ok (.int ns.sum) g := by
  show op ((intsD (ns.map D.int)).map fun ns => D.int ns.sum) g = _
  rw [ints_of]
  rfl
@[simp] theorem all_bls (ns : List Bool) : allF [.lst (ns.map D.bl)] g = .ok (.bl (ns.all id)) g := by
  show op ((bools (ns.map D.bl)).map fun bs => D.bl (bs.all id)) g = _
  rw [bools_of]
  rfl
@[simp] theorem max_int (i j : Int) : max2F [.int i, .int j] g = .ok (.int (max i j)) g := by
  show Re.ok (D.int (if j > i then j else i)) g = _
  have e : (if j > i then j else i) = max i j := by split <;> omega
  rw [e]
@[simp] theorem min_int (i j : Int) : min2F [.int i, .int j] g = .ok (.int (min i j)) g := by
  show Re.ok (D.int (if j < i then j else i)) g = _
  have e : (if j < i then j else i) = min i j := by split <;> omega
  rw [e]
theorem eq_int' (i j : Int) : eqF (.int i) (.int j) g = .ok (.bl (i == j)) g := rfl
@[simp] theorem eq_ints (i j : Int) : eqF (.int i) (.int j) g = .ok (.bl (decide (i = j))) g := by
  rw [eq_int']
  congr 2
@[simp] theorem ne_ints (i j : Int) : neF (.int i) (.int j) g = .ok (.bl (!decide (i = j))) g := by
  show Re.ok (D.bl (!(i == j))) g = _
  congr 2
@[simp] theorem tru_bl (b : Bool) : truD (.bl b) = some b := rfl
@[simp] theorem neg_int (i : Int) : negD (.int i) g = .ok (.int (-i)) g := rfl
@[simp] theorem isF_non (x : D) : isF x .non g = .ok (.bl x.isNon) g := rfl
@[simp] theorem isntF_non (x : D) : isntF x .non g = .ok (.bl (!x.isNon)) g := by unfold isntF; rfl
@[simp] theorem isNon_non : D.isNon .non = true := rfl
@[simp] theorem isNon_int (i : Int) : D.isNon (.int i) = false := rfl
@[simp] theorem bD_some (b : Bool) : bD (some b) g = .ok (.bl b) g := rfl
theorem mulI_ok {i j : Int} (h1 : i.natAbs < 2 ^ 1000) (h2 : j.natAbs < 2 ^ 1000) : mulI i j = some (i * j) := by
  unfold mulI
  have k1 : i.natAbs.log2 < 1000 := by
    by_cases z : i.natAbs = 0
    · rw [z]; decide
    · exact (Nat.log2_lt z).mpr h1
  have k2 : j.natAbs.log2 < 1000 := by
    by_cases z : j.natAbs = 0
    · rw [z]; decide
    · exact (Nat.log2_lt z).mpr h2
  rw [if_pos (by omega)]
theorem divI_ok {i j : Int} (h1 : 0 < j) (h2 : j.natAbs < 2 ^ 1000) : divI i j = some (i / j) := by
  unfold divI
  have k2 : j.natAbs.log2 < 1000 := (Nat.log2_lt (by omega)).mpr h2
  rw [if_pos ⟨h1, by omega⟩]
theorem modI_ok {i j : Int} (h1 : 0 < j) : modI i j = some (i % j) := by
  unfold modI
  rw [if_pos h1]
end
@[simp] theorem is_int_non : isT "int" .non = some false := by
  show kitB "NoneType" "int" = some false
  decide +kernel
@[simp] theorem is_bool_non : isT "bool" .non = some false := by
  show kitB "NoneType" "bool" = some false
  decide +kernel
@[simp] theorem is_tuple_non : isT "tuple" .non = some false := by
  show kitB "NoneType" "tuple" = some false
  decide +kernel
@[simp] theorem is_list_non : isT "list" .non = some false := by
  show kitB "NoneType" "list" = some false
  decide +kernel
@[simp] theorem is_str_non : isT "str" .non = some false := by
  show kitB "NoneType" "str" = some false
  decide +kernel
@[simp] theorem is_int_bl (b : Bool) : isT "int" (.bl b) = some true := by
  show kitB "bool" "int" = some true
  decide +kernel
@[simp] theorem is_bool_bl (b : Bool) : isT "bool" (.bl b) = some true := by
  show kitB "bool" "bool" = some true
  decide +kernel
@[simp] theorem is_tuple_bl (b : Bool) : isT "tuple" (.bl b) = some false := by
  show kitB "bool" "tuple" = some false
  decide +kernel
@[simp] theorem is_list_bl (b : Bool) : isT "list" (.bl b) = some false := by
  show kitB "bool" "list" = some false
  decide +kernel
@[simp] theorem is_str_bl (b : Bool) : isT "str" (.bl b) = some false := by
  show kitB "bool" "str" = some false
  decide +kernel
@[simp] theorem is_int_int (i : Int) : isT "int" (.int i) = some true := by
  show kitB "int" "int" = some true
  decide +kernel
@[simp] theorem is_bool_int (i : Int) : isT "bool" (.int i) = some false := by
  show kitB "int" "bool" = some false
  decide +kernel
@[simp] theorem is_tuple_int (i : Int) : isT "tuple" (.int i) = some false := by
  show kitB "int" "tuple" = some false
  decide +kernel
@[simp] theorem is_list_int (i : Int) : isT "list" (.int i) = some false := by
  show kitB "int" "list" = some false
  decide +kernel
@[simp] theorem is_str_int (i : Int) : isT "str" (.int i) = some false := by
  show kitB "int" "str" = some false
  decide +kernel
@[simp] theorem is_int_str (x : Str) : isT "int" (.str x) = some false := by
  show kitB "str" "int" = some false
  decide +kernel
@[simp] theorem is_bool_str (x : Str) : isT "bool" (.str x) = some false := by
  show kitB "str" "bool" = some false
  decide +kernel
@[simp] theorem is_tuple_str (x : Str) : isT "tuple" (.str x) = some false := by
  show kitB "str" "tuple" = some false
  decide +kernel
@[simp] theorem is_list_str (x : Str) : isT "list" (.str x) = some false := by
  show kitB "str" "list" = some false
  decide +kernel
@[simp] theorem is_str_str (x : Str) : isT "str" (.str x) = some true := by
  show kitB "str" "str" = some true
  decide +kernel
@[simp] theorem is_int_tup (l : List D) : isT "int" (.tup l) = some false := by
  show kitB "tuple" "int" = some false
  decide +kernel
@[simp] theorem is_bool_tup (l : List D) : isT "bool" (.tup l) = some false := by
  show kitB "tuple" "bool" = some false
  decide +kernel
@[simp] theorem is_tuple_tup (l : List D) : isT "tuple" (.tup l) = some true := by
  show kitB "tuple" "tuple" = some true
  decide +kernel
@[simp] theorem is_list_tup (l : List D) : isT "list" (.tup l) = some false := by
  show kitB "tuple" "list" = some false
  decide +kernel
@[simp] theorem is_str_tup (l : List D) : isT "str" (.tup l) = some false := by
  show kitB "tuple" "str" = some false
  decide +kernel
@[simp] theorem is_int_lst (l : List D) : isT "int" (.lst l) = some false := by
  show kitB "list" "int" = some false
  decide +kernel
@[simp] theorem is_bool_lst (l : List D) : isT "bool" (.lst l) = some false := by
  show kitB "list" "bool" = some false
  decide +kernel
@[simp] theorem is_tuple_lst (l : List D) : isT "tuple" (.lst l) = some false := by
  show kitB "list" "tuple" = some false
  decide +kernel
@[simp] theorem is_list_lst (l : List D) : isT "list" (.lst l) = some true := by
  show kitB "list" "list" = some true
  decide +kernel
@[simp] theorem is_str_lst (l : List D) : isT "str" (.lst l) = some false := by
  show kitB "list" "str" = some false
  decide +kernel
@[simp] theorem v_0 (d : D) (ρ : Env) (g : G) : eVar 0 (.im d :: ρ) g = .ok d g := rfl
@[simp] theorem v_s (i : Nat) (s : Sl) (ρ : Env) (g : G) : eVar (i + 1) (s :: ρ) g = eVar i ρ g := by
  unfold eVar
  rw [List.getElem?_cons_succ]
@[simp] theorem w_0 (d : D) (ρ : Env) (g : G) : eBor 0 (.im d :: ρ) g = .ok d g := rfl
@[simp] theorem w_d (d : List (D × D)) (ρ : Env) (g : G) : eBor 0 (.od d :: ρ) g = .ok (.dic (d.map (·.1)) (d.map (·.2))) g := rfl
@[simp] theorem w_o (d : List D) (ρ : Env) (g : G) : eBor 0 (.ow d :: ρ) g = .ok (.lst d) g := rfl
@[simp] theorem w_s (i : Nat) (s : Sl) (ρ : Env) (g : G) : eBor (i + 1) (s :: ρ) g = eBor i ρ g := by
  unfold eBor
  rw [List.getElem?_cons_succ]
/-- a comprehension whose element draws nothing -/
theorem comp_map {b : Yd → Env → Option Env} {tm : Me Bool} {el : Me D} {ρ : Env} {g : G} {f : Yd → D} : ∀ (ys : List Yd), (∀ y ∈ ys, ∃ ρ1, b y ρ = some ρ1 ∧ tm ρ1 g = .ok true g ∧ el ρ1 g = .ok (f y) g) → compF b tm el ρ ys g = .ok (ys.map f) g
  | [], _ => rfl
  | y :: r, h => by
    obtain ⟨ρ1, h1, h2, h3⟩ := h y List.mem_cons_self
    unfold compF
    rw [h1]
    simp only [h2, h3, nox_ok, bind_ok, if_pos, comp_map r fun z hz => h z (List.mem_cons_of_mem _ hz), List.map_cons]
theorem comp_filter {b : Yd → Env → Option Env} {tm : Me Bool} {el : Me D} {ρ : Env} {g : G} {f : Yd → D} {k : Yd → Bool} : ∀ (ys : List Yd), (∀ y ∈ ys, ∃ ρ1, b y ρ = some ρ1 ∧ tm ρ1 g = .ok (k y) g ∧ (k y = true → el ρ1 g = .ok (f y) g)) → compF b tm el ρ ys g = .ok ((ys.filter k).map f) g
  | [], _ => rfl
  | y :: r, h => by
    obtain ⟨ρ1, h1, h2, h3⟩ := h y List.mem_cons_self
    unfold compF
    rw [h1]
    cases hk : k y with
    | true => simp only [h2, hk, h3 hk, nox_ok, bind_ok, if_pos, comp_filter r fun z hz => h z (List.mem_cons_of_mem _ hz), List.filter_cons, List.map_cons]
    | false => simp [h2, hk, comp_filter r fun z hz => h z (List.mem_cons_of_mem _ hz), List.filter_cons]
theorem loop_step {b : Yd → Env → Option Env} {ks : List Nat} {f : Ms} {y : Yd} {r : List Yd} {ρ ρ1 : Env} {g : G} (h : b y ρ = some ρ1) : loopF b ks f (y :: r) ρ g = (f ρ1 g).turn ks (loopF b ks f r) := by
  show (match b y ρ with
    | none => Re.bad
    | some ρ1 => (f ρ1 g).turn ks (loopF b ks f r)) = _
  rw [h]
theorem loop_nil {b : Yd → Env → Option Env} {ks : List Nat} {f : Ms} {ρ : Env} {g : G} : loopF b ks f [] ρ g = .ok (.nx ρ) g := rfl
@[simp] theorem lim_eq : lim = 1000000 := rfl
section
variable {ρ : Env} {g : G}
@[simp] theorem s_App (i : Nat) (fe : Me D) : sApp i fe ρ g = match ρ[i]? with
  | some (.ow l) => (fe ρ g).bindS ρ fun d g => if l.length < lim then .ok (.nx (ρ.set i (.ow (l ++ [d])))) g else .bad
  | _ => .bad := rfl
@[simp] theorem s_Ext (i : Nat) (fe : Me D) : sExt i fe ρ g = match ρ[i]? with
  | some (.ow l) => (fe ρ g).bindS ρ fun d g => match d with
    | .lst m => if l.length + m.length ≤ lim then .ok (.nx (ρ.set i (.ow (l ++ m)))) g else .bad
    | _ => .bad
  | _ => .bad := rfl
@[simp] theorem s_Put (i : Nat) (fb fe : Me D) : sPut i fb fe ρ g = match ρ[i]? with
  | some (.ow l) => (fe ρ g).bindS ρ fun d g => (fb ρ g).bindS ρ fun k g => match ixS l.length k with
    | some j => .ok (.nx (ρ.set i (.ow (l.set j d)))) g
    | none => .bad
  | _ => .bad := rfl
@[simp] theorem s_Aug (i : Nat) (F : D → D → G → Re D) (fe : Me D) : sAug i F fe ρ g = match ρ[i]? with
  | some (.im x) => (fe ρ g).bindS ρ fun y g => (F x y g).bindS ρ fun z g => .ok (.nx (ρ.set i (.im z))) g
  | _ => .bad := rfl
@[simp] theorem frzS_eq (i : Nat) : frzS i ρ = match ρ[i]? with
  | some (.ow l) => ρ.set i (.im (.lst l))
  | some (.od l) => ρ.set i (.im (.dic (l.map (·.1)) (l.map (·.2))))
  | _ => ρ := rfl
@[simp] theorem sl_tup (l : List D) (lo hi : Option Int) : slF (.tup l) lo hi g = .ok (.tup (cutA l lo hi)) g := rfl
end
theorem cutA_map {α β : Type} (f : α → β) (l : List α) (lo hi : Option Int) : cutA (l.map f) lo hi = (cutA l lo hi).map f := by
  unfold cutA
  rw [List.length_map, List.map_take, List.map_drop]
theorem comp_cons (b : Yd → Env → Option Env) (tm : Me Bool) (el : Me D) (ρ : Env) (y : Yd) (r : List Yd) (g : G) : compF b tm el ρ (y :: r) g = match b y ρ with
    | none => .bad
    | some ρ1 => (tm ρ1 g).nox.bind fun k g => if k = true then (el ρ1 g).nox.bind fun d g => (compF b tm el ρ r g).bind fun l g => .ok (d :: l) g else compF b tm el ρ r g := rfl
theorem comp_nil (b : Yd → Env → Option Env) (tm : Me Bool) (el : Me D) (ρ : Env) (g : G) : compF b tm el ρ [] g = .ok [] g := rfl
@[simp] theorem small_lit (i : Int) (h : -1000000 ≤ i ∧ i ≤ 1000000) : smallI i = true := by
  unfold smallI
  exact decide_eq_true (by omega)
@[simp] theorem add_lst (x y : List D) (g : G) : addD (.lst x) (.lst y) g = if x.length + y.length ≤ lim then .ok (.lst (x ++ y)) g else .bad := rfl
@[simp] theorem add_tup (x y : List D) (g : G) : addD (.tup x) (.tup y) g = if x.length + y.length ≤ lim then .ok (.tup (x ++ y)) g else .bad := rfl
@[simp] theorem cat_lst (x y : List D) (g : G) : catL (.lst x) (.lst y) g = if x.length + y.length ≤ lim then .ok (x ++ y) g else .bad := rfl
theorem comp_step {b : Yd → Env → Option Env} {tm : Me Bool} {el : Me D} {ρ ρ1 : Env} {y : Yd} {r : List Yd} {g : G} {d : D} (h1 : b y ρ = some ρ1) (h2 : tm ρ1 g = .ok true g) (h3 : el ρ1 g = .ok d g) : compF b tm el ρ (y :: r) g = (compF b tm el ρ r g).bind fun l g => .ok (d :: l) g := by
  rw [comp_cons, h1]
  simp [h2, h3]
theorem rg_comp {b : Yd → Env → Option Env} {tm : Me Bool} {el : Me D} {ρ : Env} {g : G} (F : Int → D) : ∀ (n : Nat) (lo : Int), (∀ i : Nat, i < n → ∃ ρ1, b (.one (.int (lo + i))) ρ = some ρ1 ∧ tm ρ1 g = .ok true g ∧ el ρ1 g = .ok (F (lo + i)) g) → compF b tm el ρ (rgD lo 1 n) g = .ok ((List.range n).map fun (i : Nat) => F (lo + (i : Int))) g
  | 0, _, _ => rfl
  | n + 1, lo, h => by
    obtain ⟨ρ1, h1, h2, h3⟩ := h 0 (by omega)
    rw [show lo + ((0 : Nat) : Int) = lo by simp] at h1 h3
    have ih := rg_comp (b := b) (tm := tm) (el := el) (ρ := ρ) (g := g) F n (lo + 1) fun i hi => by
      have z := h (i + 1) (by omega)
      have e : lo + ((i + 1 : Nat) : Int) = lo + 1 + (i : Int) := by omega
      rw [e] at z
      exact z
    rw [show rgD lo 1 (n + 1) = .one (.int lo) :: rgD (lo + 1) 1 n from rfl, comp_step h1 h2 h3, ih]
    rw [List.range_succ_eq_map, List.map_cons, List.map_map, bind_ok]
    congr 2
    · simp
    · apply List.map_congr_left
      intro i _
      show F _ = F _
      congr 1
      show lo + 1 + (i : Int) = lo + ((i + 1 : Nat) : Int)
      omega
theorem ints_comp {l : List Int} {ρ : Env} {b : Yd → Env → Option Env} {tm : Me Bool} {el : Me D} {g : G} (f : Int → D) (h : ∀ x ∈ l, ∃ ρ1, b (.one (.int x)) ρ = some ρ1 ∧ tm ρ1 g = .ok true g ∧ el ρ1 g = .ok (f x) g) :
    compF b tm el ρ (l.map (Yd.one ∘ D.int)) g = .ok (l.map f) g := by
  induction l with
  | nil => rfl
  | cons x r ih =>
    obtain ⟨ρ1, h1, h2, h3⟩ := h x List.mem_cons_self
    rw [List.map_cons, show (Yd.one ∘ D.int) x = .one (.int x) from rfl, comp_step h1 h2 h3, ih fun y hy => h y (List.mem_cons_of_mem _ hy)]
    rfl
end Dl
set_option Elab.async false
set_option linter.all false
set_option maxRecDepth 100000
set_option maxHeartbeats 2000000
namespace Dl
open PySem PySem.Spec PyProof.Rows L2
/-! ### sorted(..) of whole numbers -/
def sortI (l : List Int) : List Int := l.mergeSort fun a b => decide (a ≤ b)
theorem sortI_eq {a b : List Int} (p : a.Perm b) (s : a.Pairwise (· ≤ ·)) : a = sortI b := by
  have t := List.pairwise_mergeSort (le := fun a b : Int => decide (a ≤ b)) (fun a b c h1 h2 => by
    have h1 := of_decide_eq_true h1
    have h2 := of_decide_eq_true h2
    exact decide_eq_true (by omega)) (fun a b => by
    by_cases h : a ≤ b
    · simp [h]
    · have : b ≤ a := by omega
      simp [this]) b
  have t : (sortI b).Pairwise (· ≤ ·) := t.imp fun h => of_decide_eq_true h
  exact List.Perm.eq_of_pairwise (fun x y _ _ h1 h2 => by omega) s t (p.trans (List.mergeSort_perm b _).symm)
def sortedF : List D → G → Re (List D)
  | [.lst l], g => op ((intsD l).map fun ns => (sortI ns).map D.int) g
  | _, _ => .bad
theorem bt_sorted : bootBuiltins "sorted" = some (.builtin "sorted") := by decide +kernel
theorem bi_sorted {C : Ctx} : Bi C (rF C.k) (.builtin "sorted") (rSortedI C.k.K) sortedF where
  hc := fun X h => by rw [← h.K]; exact cr_sortedI
  hr := by
    intro w σ xs vs Q o b q
    unfold sortedF at q
    split at q
    · rename_i _ l
      obtain ⟨v, e, b⟩ := b.one
      obtain ⟨a, us, e2, s, r⟩ := b.lst o
      subst e e2
      cases z : intsD l with
      | none => rw [z] at q; exact q.elim
      | some ns =>
        rw [z] at q
        rw [ints_map z] at r
        cases RvL.ints_inv r
        refine ⟨a, ns, rfl, .inl (.inl s), fun ns' p hp hs hn => ?_⟩
        rw [sortI_eq hp hs]
        exact new_own o (RvL.ints _) q p hn
    · exact q.elim
/-- a tuple of targets, a list given -/
def bLst (n : Nat) (c : List D → Env → Option Env) : D → Env → Option Env
  | .lst l, ρ => if l.length = n then c l ρ else none
  | _, _ => none
theorem dg_lst {C : Ctx} {es : List Expr} {pos : Pos} {k n : Nat} {c : List D → Env → Option Env} {us : List Nat} (h : DGs C es c us)
    (hn : ∀ env, (assignEach es env).length = n := by intro _; rfl) (hst : ∀ env, (assignEach es env).findIdx? (·.1) = none := by intro _; rfl) : DG C (.Tuple es k pos) (bLst n c) us := by
  obtain ⟨u, p2, q2⟩ := h
  refine ⟨gLst C.k.K n u, fun X h => by rw [← h.K]; exact pg_lst h.calm (p2 X h) (hn _) (hst _), fun w0 w ρ σ d v ρ' Q R r b q => ?_⟩
  cases d with
  | lst l =>
    unfold bLst at b
    dsimp only at b
    split at b
    · rename_i e
      cases r with
      | lst hz rl => exact ⟨_, _, rfl, .inl (.inl (R.ok.sub _ _ hz)), by rw [rl.length]; exact e, q2 w0 w ρ σ _ _ ρ' _ R rl b q⟩
    · cases b
  | _ => cases b
@[simp] theorem b_Lst (n : Nat) (c : List D → Env → Option Env) (l : List D) (ρ : Env) : bLst n c (.lst l) ρ = if l.length = n then c l ρ else none := rfl
/-- x, y, z = a, b, c: three names, values -/
def sParT (i j l : Nat) (fs : Me (List D)) : Ms := fun ρ g => (fs ρ g).bindS ρ fun r g => match r with
  | [a, b, c] => .ok (.nx (((ρ.set i (.im a)).set j (.im b)).set l (.im c))) g
  | _ => .bad
theorem ds_par3 {C : Ctx} {a b c : Expr} {fs : Me (List D)} {pos : Pos} (i j l : Nat) {x y z : Str} {px py pz pt pt2 : Pos} {kt k2 : Nat} (ha : DA C [a, b, c] fs) (hi : C.N[i]? = some x := by rfl) (hj : C.N[j]? = some y := by rfl) (hl : C.N[l]? = some z := by rfl) (hij : i ≠ j := by decide) (hil : i ≠ l := by decide) (hjl : j ≠ l := by decide)
    (hx : C.sc.names.lookup x = some .local := by rfl) (hy : C.sc.names.lookup y = some .local := by rfl) (hz : C.sc.names.lookup z = some .local := by rfl)
    (hw : ∀ env, env.scope = C.sc → swappedStores [.Tuple [.Name x px, .Name y py, .Name z pz] kt pt] (.Tuple [a, b, c] k2 pt2) env = pure (some [x, y, z]) := by intro env h; obtain ⟨⟩ := env; cases h; rfl)
    (hs : ∀ env, swapsWithSole [.Tuple [.Name x px, .Name y py, .Name z pz] kt pt] (.Tuple [a, b, c] k2 pt2) pos.line env = pure false := by intro _; rfl) : DS C (.Assign [.Tuple [.Name x px, .Name y py, .Name z pz] kt pt] (.Tuple [a, b, c] k2 pt2) pos) (sParT i j l fs) := by
  obtain ⟨t, q, v⟩ := ha
  refine ⟨_, fun X h => ps_par3 h.calm h.nd (by rw [h.N]; exact hi) (by rw [h.N]; exact hj) (by rw [h.N]; exact hl) hij hil hjl (by rw [h.sc]; exact hx) (by rw [h.sc]; exact hy) (by rw [h.sc]; exact hz) (q X h) (hw _ h.sc) (hs _), ⟨fun w0 w ρ σ E R k => v.run w0 w ρ σ _ R (PoS.bind R k fun r us w1 e1 g1 o1 R1 r1 k1 => ?_)⟩⟩
  have r1 : RvL C.k.K w1 us r := r1
  match r, us, r1, k1 with
  | [d1, d2, d3], [v1, v2, v3], .cons p1 (.cons p2 (.cons p3 .nil)), k1 => exact ⟨v1, v2, v3, rfl, k1 w1 _ (.refl _) rfl (((R1.setIm i p1).setIm j p2).setIm l p3)⟩
  | [], _, _, k1 => exact k1.elim
  | [_], _, _, k1 => exact k1.elim
  | [_, _], _, _, k1 => exact k1.elim
  | _ :: _ :: _ :: _ :: _, _, _, k1 => exact k1.elim
@[simp] theorem s_ParT (i j l : Nat) (fs : Me (List D)) (ρ : Env) (g : G) : sParT i j l fs ρ g = (fs ρ g).bindS ρ fun r g => match r with
  | [a, b, c] => .ok (.nx (((ρ.set i (.im a)).set j (.im b)).set l (.im c))) g
  | _ => .bad := rfl
/-! ### divmod(..) of whole numbers -/
theorem call_dm {X : Cx} : CallR X (.builtin "divmod") (fun xs H Q => ∃ i j, xs = [.int i, .int j] ∧ CDivP i j ∧ NewT [.int (i / j), .int (i % j)] H Q) := by
  intro pins s σ H xs us Q I r ⟨i, j, e, ⟨h1, h2⟩, q⟩
  subst e
  obtain ⟨u, v, rfl, ⟨t, rfl⟩, ⟨t', rfl⟩⟩ := vals2 r
  refine divmod_int (by omega) ?_ (.inl h2)
  rw [Int.fdiv_eq_ediv_of_nonneg i (by omega), Int.fmod_eq_emod_of_nonneg i (by omega)]
  have r : Vals [V.int (i / j), V.int (i % j)] [.int (i / j) s.toks, .int (i % j) (s.toks + 1)] := .cons ⟨_, rfl⟩ (.cons ⟨_, rfl⟩ .nil)
  obtain ⟨v, H2, J, rv, k⟩ := layT (s := { s with toks := s.toks + 2 }) (I.tok _) r (by show 2 ≤ sizeLine; rw [sizeLine_eq]; decide) q
  exact ⟨v, H2, J, rv, k⟩
def divmodF : List D → G → Re D
  | [.int i, .int j], g => if 0 < j ∧ i.natAbs.log2 < 3000 then .ok (.tup [.int (i / j), .int (i % j)]) g else .bad
  | _, _ => .bad
theorem bt_divmod : bootBuiltins "divmod" = some (.builtin "divmod") := by decide +kernel
theorem bi_divmod {C : Ctx} : Bi C (rD C.k) (.builtin "divmod") (fun xs H Q => ∃ i j, xs = [.int i, .int j] ∧ CDivP i j ∧ NewT [.int (i / j), .int (i % j)] H Q) divmodF where
  hc := fun X h => call_dm
  hr := by
    intro w σ xs vs Q o b q
    unfold divmodF at q
    split at q
    · rename_i i j
      split at q
      · rename_i h
        obtain ⟨u, u2, e, b1, b2⟩ := BvL.two b
        cases b1.int
        cases b2.int
        refine ⟨i, j, e, divp_ok h.1 ?_, new_tup o (.cons (.int _) (.cons (.int _) .nil)) q⟩
        unfold Builtin.Int.intBits
        split <;> omega
      · exact q.elim
    · exact q.elim
theorem divmod_ok {i j : Int} (g : G) (h1 : 0 < j) (h2 : i.natAbs < 2 ^ 1000) : divmodF [.int i, .int j] g = .ok (.tup [.int (i / j), .int (i % j)]) g := by
  have k : i.natAbs.log2 < 3000 := by
    by_cases z : i.natAbs = 0
    · rw [z]; decide
    · have := (Nat.log2_lt z).mpr h2
      omega
  exact if_pos ⟨h1, k⟩
/-! ### a module's name for a built-in function; gcd -/
theorem dx_callM {C : Ctx} {e : Expr} {es : List Expr} {x : Str} {p pos : Pos} {fs : Me (List D)} {γ : Type} {RR : Wd → Wd → V → γ → Prop} (L : Lft RR) {id : String} {r : List V → Hp → VK → Prop} {F : List D → G → Re γ} (k : Bi C RR (.builtin id) r F) (hm : C.k.mg x = some (.builtin id)) (ha : DAB C (e :: es) fs)
    (hg : glB C.sc x = true := by rfl) (hdb : (x == ("__debug__" : Str)) = false := by decide +kernel) (n : NoStar e es := by intro _; rfl) (hpl : ∀ env, (backTo pos (starEach es env)).any (·.1) = false := by intro _; rfl) : DX C RR (.Call (.Name x p) (e :: es) [] pos) (eArgs F fs) := by
  obtain ⟨t, q, v⟩ := ha
  exact ⟨_, fun X h => pe_callBfun (k.hc X h) (h.gl hg) (by rw [h.mg]; exact hm) (q X h) hdb (n _) (hpl _), ⟨fun w0 w ρ σ Q R h => v.run w0 w ρ σ _ R (Po.bind L h fun l us w1 e1 g1 o1 r1 h1 => k.hr w1 σ l us Q o1 r1 h1)⟩⟩
def gcdF : List D → G → Re D
  | [.int i, .int j], g => .ok (.int (Nat.gcd i.natAbs j.natAbs : Nat)) g
  | _, _ => .bad
theorem bi_gcd {C : Ctx} : Bi C (rD C.k) (.builtin "math.gcd") rGcd gcdF where
  hc := fun X h => cr_gcd
  hr := by
    intro w σ xs vs Q o b q
    unfold gcdF at q
    split at q
    · rename_i i j
      obtain ⟨u, u2, e, b1, b2⟩ := BvL.two b
      cases b1.int
      cases b2.int
      exact ⟨i, j, e, q _ w (.refl o) (.int _)⟩
    · exact q.elim
@[simp] theorem gcd_int (i j : Int) (g : G) : gcdF [.int i, .int j] g = .ok (.int (Nat.gcd i.natAbs j.natAbs : Nat)) g := rfl
end Dl
set_option Elab.async false
set_option linter.all false
set_option maxRecDepth 100000
set_option maxHeartbeats 1000000
namespace Dl
open PySem PySem.Spec PyProof.Rows L2
/-! ### dicts of the def's own -/
section
variable {C : Ctx} {pos p : Pos} {a b c e : Expr} {es rest : List Expr} {fa fb fc fe : Me D} {x : Str}
/-- a new dict, not yet shared -/
def rFd (k : Kt) : Wd → Wd → V → List (D × D) → Prop := fun w0 w v l => ∃ a xs, v = .ref a ∧ New w0 w a ∧ w.H a = some (.dK xs) ∧ l.map (·.1) = xs.map (fun p => kD p.1) ∧ RvL k.K w (xs.map (·.2)) (l.map (·.2))
theorem lft_Fd (k : Kt) : Lft (rFd k) := fun w w' w'' v l e h => by
  obtain ⟨a, xs, h1, n, h2, h3⟩ := h
  exact ⟨a, xs, h1, n.back e, h2, h3⟩
abbrev DDc (C : Ctx) (e : Expr) (f : Me (List (D × D))) : Prop := DX C (rFd C.k) e f
def dicD (l : List (D × D)) : D := .dic (l.map (·.1)) (l.map (·.2))
def eDic (f : Me (List (D × D))) : Me D := fun ρ g => mapRe dicD (f ρ g)
theorem DDc.bw {f : Me (List (D × D))} (h : DDc C e f) : DB C e (eDic f) := by
  obtain ⟨t, p, v⟩ := h
  refine ⟨t, p, ⟨fun w0 w ρ σ Q R h => v.run w0 w ρ σ Q R ?_⟩⟩
  have h : Po C.k C.W (rB C.k) w σ Q (mapRe dicD (f ρ w.g)) := h
  cases q : f ρ w.g with
  | ok a g =>
    rw [q] at h
    exact fun v w2 t r => h v w2 t (by obtain ⟨x, xs, h1, n, h2, h3, h4⟩ := r; exact .inr (.inr ⟨x, xs, _, _, h1, rfl, h2, n.off, n.z, h3, h4⟩))
  | ex c fs r g => rw [q] at h; exact h
  | bad => rw [q] at h; exact h
theorem DDc.ev {f : Me (List (D × D))} (h : DDc C e f) : DE C e (eDic f) := by
  obtain ⟨t, p, v⟩ := h
  refine ⟨t, p, ⟨fun w0 w ρ σ Q R h => v.run w0 w ρ σ Q R ?_⟩⟩
  have h : Po C.k C.W (rD C.k) w σ Q (mapRe dicD (f ρ w.g)) := h
  cases q : f ρ w.g with
  | ok a g =>
    rw [q] at h
    refine fun v w2 t r => ?_
    obtain ⟨x, xs, h1, n, h2, h3, h4⟩ := r
    subst h1
    exact h (.ref x) { w2 with Z := upd w2.Z x (.dK xs) } ⟨t.gr.freeze n, t.ok.freeze h2 n.z n.off, t.g⟩ (.dic upd_same h3 (h4.mono (.put n.z)))
  | ex c fs r g => rw [q] at h; exact h
  | bad => rw [q] at h; exact h
/-- {} -/
def dEmp : Me (List (D × D)) := fun _ g => .ok [] g
theorem dd_emp : DDc C (.Dict [] [] pos) dEmp :=
  ⟨_, fun X h => pe_dnewK, ⟨fun w0 w ρ σ Q R h p hp => h (.ref p) { w with H := upd w.H p (.dK []) } (.new R.ok hp) ⟨p, [], rfl, .of R.ok hp, upd_same, rfl, .nil⟩⟩⟩
/-- name = {..} -/
def sOwnD (i : Nat) (fe : Me (List (D × D))) : Ms := fun ρ g => (fe ρ g).bindS ρ fun l g => .ok (.nx (ρ.set i (.od l))) g
theorem ev_ownD {te : TE} {fl : Me (List (D × D))} (i : Nat) (v : Ev C (rFd C.k) te fl) : EvS C (tAsg te (gName i)) (sOwnD i fl) :=
  ⟨fun w0 w ρ σ E R k => v.run w0 w ρ σ _ R (PoS.bind R k fun l v w1 e1 g1 o1 R1 r1 k1 => by
    obtain ⟨a, xs, e, n, h, m, r⟩ := r1
    subst e
    exact k1 w1 _ (.refl _) rfl (R1.setS i (.od (n.back R.gr) h m r) fun _ b j t eb h1 o2 h2 => by
      cases eb
      exact absurd n.h (R.live h1 o2 h2)))⟩
theorem ds_ownD (i : Nat) {x : Str} {p : Pos} {fl : Me (List (D × D))} (a : DDc C e fl) (hN : C.N[i]? = some x := by rfl) (hx : locB C x = true := by rfl)
    (hs : ∀ env, env.scope = C.sc → swapsWith e (some (.Name x p)) pos.line env = pure false := by intro _ _; rfl) : DS C (.Assign [.Name x p] e pos) (sOwnD i fl) := by
  obtain ⟨t, q, v⟩ := a
  obtain ⟨h1, h2⟩ := loc_of hx
  exact ⟨_, fun X h => ps_set h.nd (by rw [h.N]; exact hN) (by rw [h.sc]; exact h1) (q X h) (hs _ h.sc) (by rw [h.fn, h.sc]; exact h2), ev_ownD i v⟩
/-- a, b = x, {} -/
def zOd (fe : Me (List (D × D))) (fs : Me (List Sl)) : Me (List Sl) := fun ρ g => (fe ρ g).bind fun x g => (fs ρ g).bind fun l g => .ok (.od x :: l) g
theorem das_od {fd : Me (List (D × D))} {fs : Me (List Sl)} (ha : DDc C e fd) (hs : DAS C es fs) (n : NoStar e es := by intro _; rfl) : DAS C (e :: es) (zOd fd fs) := by
  obtain ⟨ta, pa, va⟩ := ha
  obtain ⟨ts, ps, vs⟩ := hs
  refine ⟨_, fun X h => pa_cons (pa X h) (ps X h) (n _), ⟨fun w0 w ρ σ Q R h => va.run w0 w ρ σ _ R (Po.bindAt (.refl w) h fun x v w1 e1 g1 o1 r1 h1 => vs.run w0 w1 ρ σ _ (R.step g1 o1) (Po.bindAt g1 h1 fun l us w2 e2 g2 o2 r2 h2 => ?_))⟩⟩
  have r2 : SlL C.k.K w1 w2 us l := r2
  obtain ⟨a, xs, ev, n1, hh, m, r⟩ := r1
  subst ev
  obtain ⟨n2, hh2⟩ := n1.step hh g2
  exact h2 (.ref a :: us) w2 ⟨g1.trans g2, o2, rfl⟩ (.od n2 hh2 m (r.grow g2) (fun j s hj ho hv => by rw [(r2.new hj ho hv).h] at hh; cases hh) (r2.lift g1))
theorem SlL.step {K : PySem.W.Frag} {w w1 w2 : Wd} (e : Grow w1 w2) : ∀ {vs : List V} {ss : List Sl}, SlL K w w1 vs ss → SlL K w w2 vs ss
  | _, _, .nil => .nil
  | _, _, .im r t => .im (r.grow e) (SlL.step e t)
  | _, _, .ow n h r a t => .ow (n.step h e).1 (n.step h e).2 (r.grow e) a (SlL.step e t)
  | _, _, .od n h m r a t => .od (n.step h e).1 (n.step h e).2 m (r.grow e) a (SlL.step e t)
/-- a, b = x, y by a tuple -/
theorem ds_parC (i j : Nat) {fs : Me (List Sl)} {x y : Str} {px py pt pt2 : Pos} {kt k2 : Nat} (ha : DAS C [a, b] fs) (hi : C.N[i]? = some x := by rfl) (hj : C.N[j]? = some y := by rfl)
    (hx : locB C x = true := by rfl) (hy : locB C y = true := by rfl)
    (hw : ∀ env, env.scope = C.sc → swappedStores [.Tuple [.Name x px, .Name y py] kt pt] (.Tuple [a, b] k2 pt2) env = pure none := by first | (intro _ _; rfl) | (intro env h; obtain ⟨⟩ := env; cases h; rfl))
    (hs : ∀ env, swapsWithSole [.Tuple [.Name x px, .Name y py] kt pt] (.Tuple [a, b] k2 pt2) pos.line env = pure false := by intro _; rfl) : DS C (.Assign [.Tuple [.Name x px, .Name y py] kt pt] (.Tuple [a, b] k2 pt2) pos) (sPar i j fs) := by
  obtain ⟨t, q, v⟩ := ha
  obtain ⟨x1, x2⟩ := loc_of hx
  obtain ⟨y1, y2⟩ := loc_of hy
  have pg : ∀ X, CtxOk C X → PG X (.Tuple [.Name x px, .Name y py] kt pt) (gTup C.k.K 2 (gCons (gName i) (gCons (gName j) gNil))) := fun X h => by
    have p1 : PG X (.Name x px) (gName i) := pg_name h.nd (by rw [h.N]; exact hi) (by rw [h.sc]; exact x1) (by rw [h.fn, h.sc]; exact x2)
    have p2 : PG X (.Name y py) (gName j) := pg_name h.nd (by rw [h.N]; exact hj) (by rw [h.sc]; exact y1) (by rw [h.fn, h.sc]; exact y2)
    rw [← h.K]
    exact pg_tup h.calm (pgs_cons p1 (pgs_cons p2 pgs_nil rfl) rfl) rfl rfl
  refine ⟨_, fun X h => ps_asg (pe_tupN (q X h)) (pg X h) (hs _) (hw _ h.sc) rfl, ⟨fun w0 w ρ σ E R k => v.run w0 w ρ σ _ R (PoS.bind R k fun l us w1 e1 g1 o1 R1 r1 k1 => ?_)⟩⟩
  have r1 : SlL C.k.K w w1 us l := r1
  match l, r1, k1 with
  | [s, t], r1, k1 =>
    obtain ⟨v1, v2, e12⟩ := r1.two
    subst e12
    refine ⟨by show 2 ≤ sizeLine; rw [sizeLine_eq]; decide, fun p o hp hd => ?_⟩
    have g2 : Grow w1 { w1 with H := upd w1.H p (.frz o (.tup [v1, v2])) } := .new hp
    have ow2 : Wok { w1 with H := upd w1.H p (.frz o (.tup [v1, v2])) } := o1.new hp
    have R2 := R1.step g2 ow2
    have r2 : SlL C.k.K w { w1 with H := upd w1.H p (.frz o (.tup [v1, v2])) } [v1, v2] [s, t] := SlL.step g2 r1
    refine ⟨p, [v1, v2], rfl, .inl (.inr ⟨o, upd_same⟩), rfl, v1, _, rfl, v2, _, rfl, rfl, k1 { w1 with H := upd w1.H p (.frz o (.tup [v1, v2])) } _ g2.zl rfl ?_⟩
    have Ra := R2.setS i (r2.ok R.gr (j := 0) rfl rfl) fun o a j t e h1 o2 h2 => by
      subst e
      exact absurd (r1.new (j := 0) rfl o rfl).h (R.live h1 o2 h2)
    refine Ra.setS j (r2.ok R.gr (j := 1) rfl rfl) fun o a j2 t2 e h1 o2 h2 => ?_
    subst e
    rcases set_at h2 with ⟨_, z⟩ | ⟨nz, z⟩
    · rcases set_at h1 with ⟨_, z2⟩ | ⟨nz2, _⟩
      · subst z2
        have e : v1 = V.ref a := (Option.some.inj z).symm
        subst e
        exact (r1.apart (i := 0) (j := 1) (by omega) rfl rfl o2 o rfl rfl).elim
      · exact absurd (by assumption) nz2
    · rcases set_at h1 with ⟨z1, _⟩ | ⟨_, z2⟩
      · exact absurd z1 nz
      · exact absurd (r1.new (j := 1) rfl o rfl).h (R.live z2 o2 z)
  | [], _, k1 => exact k1.elim
  | [_], _, k1 => exact k1.elim
  | _ :: _ :: _ :: _, _, k1 => exact k1.elim
/-- the own dict at slot i -/
def atOd (i : Nat) (F : List (D × D) → Ms) : Ms := fun ρ g => match ρ[i]? with
  | some (.od l) => F l ρ g
  | _ => .bad
theorem atOd_inv {i : Nat} {F : List (D × D) → Ms} {w0 w : Wd} {ρ : Env} {g : G} {E : Ends} (h : PoS C w0 w E (atOd i F ρ g)) : ∃ l, ρ[i]? = some (.od l) ∧ PoS C w0 w E (F l ρ g) := by
  unfold atOd at h
  split at h
  · exact ⟨_, by assumption, h⟩
  · exact h.elim
theorem Rel.putOd {K : PySem.W.Frag} {w0 w : Wd} {ρ : Env} {σ : Sg} (R : Rel K w0 w ρ σ) {i : Nat} {l : List (D × D)} (h : ρ[i]? = some (.od l)) : ∃ a xs, σ[i]? = some (some (.ref a)) ∧ New w0 w a ∧ w.H a = some (.dK xs) ∧ l.map (·.1) = xs.map (fun p => kD p.1) ∧ RvL K w (xs.map (·.2)) (l.map (·.2)) ∧
    ∀ (ys : List (Key × V)) (l' : List (D × D)), l'.map (·.1) = ys.map (fun p => kD p.1) → RvL K w (ys.map (·.2)) (l'.map (·.2)) → Rel K w0 { w with H := upd w.H a (.dK ys) } (ρ.set i (.od l')) σ := by
  have s := R.sl i _ h
  generalize hx : σ[i]? = x at s
  cases s with
  | @od a xs _ n hh m r =>
    refine ⟨a, xs, rfl, n, hh, m, r, fun ys l' m' r' => ⟨R.ok.put n.z n.off, R.gr.put n.h, by rw [List.length_set]; exact R.ln, fun j t ht => ?_, fun j k t u b ne h1 h2 o1 o2 e1 e2 => ?_⟩⟩
    · rcases set_at ht with ⟨z, e⟩ | ⟨nz, e⟩
      · subst z e
        rw [hx]
        exact .od ⟨n.h, n.o0, n.z, n.off⟩ upd_same m' (r'.mono .of_H)
      · have s2 := R.sl j t e
        generalize hy : σ[j]? = y at s2
        cases s2 with
        | no => exact .no
        | im r2 => exact .im (r2.mono .of_H)
        | @ow b zs _ n2 h2 r2 =>
          have nb : b ≠ a := fun q => by
            subst q
            exact R.inj j i _ _ _ nz e h rfl rfl hy hx
          exact .ow ⟨n2.h, n2.o0, n2.z, n2.off⟩ (by show upd w.H a _ b = _; rw [upd_ne nb]; exact h2) (r2.mono .of_H)
        | @od b zs _ n2 h2 m2 r2 =>
          have nb : b ≠ a := fun q => by
            subst q
            exact R.inj j i _ _ _ nz e h rfl rfl hy hx
          exact .od ⟨n2.h, n2.o0, n2.z, n2.off⟩ (by show upd w.H a _ b = _; rw [upd_ne nb]; exact h2) m2 (r2.mono .of_H)
        | @al s b h2 => exact .al b h2
    · have look : ∀ {j : Nat} {t : Sl}, (ρ.set i (.od l'))[j]? = some t → t.own = true → ∃ t', ρ[j]? = some t' ∧ t'.own = true := fun {j t} e o => by
        rcases set_at e with ⟨z, _⟩ | ⟨_, e⟩
        · subst z; exact ⟨_, h, rfl⟩
        · exact ⟨t, e, o⟩
      obtain ⟨t', h1, o1⟩ := look h1 o1
      obtain ⟨u', h2, o2⟩ := look h2 o2
      exact R.inj j k t' u' b ne h1 h2 o1 o2 e1 e2
/-- name[b] = e, a dict -/
def dPut (l : List (D × D)) (k d : D) : List (D × D) := if (l.any fun p => eqD p.1 k) = true then l.map (fun p => if eqD p.1 k = true then (p.1, d) else p) else l ++ [(k, d)]
theorem RvL.putK {K : PySem.W.Frag} {w : Wd} {k : Key} {v : V} {d : D} (r : Rv K w v d) : ∀ {xs : List (Key × V)} {l : List (D × D)}, l.map (·.1) = xs.map (fun p => kD p.1) → RvL K w (xs.map (·.2)) (l.map (·.2)) →
    RvL K w ((xs.map (fun kv => if kv.1 = k then (kv.1, v) else kv)).map (·.2)) ((l.map (fun p => if eqD p.1 (kD k) = true then (p.1, d) else p)).map (·.2))
  | [], [], _, _ => .nil
  | [], _ :: _, m, _ => nomatch m
  | _ :: _, [], m, _ => nomatch m
  | x :: xs, p :: l, m, q => by
    rw [List.map_cons, List.map_cons] at m q
    obtain ⟨m1, m2⟩ := List.cons.inj m
    cases q with
    | cons q1 q2 =>
      have ih := RvL.putK (k := k) r m2 q2
      rw [List.map_cons, List.map_cons, List.map_cons, List.map_cons, m1, eqD_key]
      refine .cons ?_ ih
      by_cases z : x.1 = k
      · rw [if_pos z, if_pos (decide_eq_true z)]; exact r
      · rw [if_neg z, if_neg (by rw [decide_eq_false z]; exact Bool.false_ne_true)]; exact q1
theorem keys_any {xs : List (Key × V)} {l : List (D × D)} {k : Key} (m : l.map (·.1) = xs.map (fun p => kD p.1)) : (l.any fun p => eqD p.1 (kD k)) = xs.any fun kv => decide (kv.1 = k) := by
  have e : (l.any fun p => eqD p.1 (kD k)) = ((l.map (·.1)).any fun z => eqD z (kD k)) := by rw [List.any_map]; rfl
  rw [e, m, List.any_map]
  congr 1
  funext p
  exact eqD_key p.1 k
theorem putK_ok {K : PySem.W.Frag} {w : Wd} {xs : List (Key × V)} {l : List (D × D)} {k : Key} {v : V} {d : D} (m : l.map (·.1) = xs.map (fun p => kD p.1)) (q : RvL K w (xs.map (·.2)) (l.map (·.2))) (r : Rv K w v d) :
    (dPut l (kD k) d).map (·.1) = (L2.putK xs k v).map (fun p => kD p.1) ∧ RvL K w ((L2.putK xs k v).map (·.2)) ((dPut l (kD k) d).map (·.2)) := by
  unfold dPut L2.putK
  rw [keys_any m]
  split
  · refine ⟨?_, RvL.putK r m q⟩
    rw [List.map_map, List.map_map]
    have e1 : ((·.1) ∘ fun p : D × D => if eqD p.1 (kD k) = true then (p.1, d) else p) = (·.1) := by
      funext p
      show (if eqD p.1 (kD k) = true then (p.1, d) else p).1 = p.1
      split <;> rfl
    have e2 : ((fun p => kD p.1) ∘ fun kv : Key × V => if kv.1 = k then (kv.1, v) else kv) = fun p => kD p.1 := by
      funext p
      show kD (if p.1 = k then (p.1, v) else p).1 = kD p.1
      split <;> rfl
    rw [e1, e2, m]
  · rw [List.map_append, List.map_append, List.map_append, List.map_append, m]
    exact ⟨rfl, q.append (.cons r .nil)⟩
def sPutD (i : Nat) (fb fe : Me D) : Ms := atOd i fun l ρ g => (fe ρ g).bindS ρ fun d g => (fb ρ g).bindS ρ fun k g => if (kyD k).isSome = true ∧ l.length < lim then .ok (.nx (ρ.set i (.od (dPut l k d)))) g else .bad
theorem ds_putD (i : Nat) {x : Str} {spos : Pos} {fb : Me D} (hb : DB C b fb) (ha : DE C e fe) (hN : C.N[i]? = some x := by rfl) (hv : visB C.sc x = true := by rfl) (hd : (x == ("__debug__" : Str)) = false := by decide +kernel) (hcd : (x == ("__classdict__" : Str)) = false := by decide +kernel)
    (hs : ∀ env, swapsWith e (some (.Subscript (.Name x p) b spos)) pos.line env = pure false := by intro _; rfl) : DS C (.Assign [.Subscript (.Name x p) b spos] e pos) (sPutD i fb fe) := by
  obtain ⟨t, q, v⟩ := ha
  obtain ⟨tb, qb, vb⟩ := hb
  refine ⟨_, fun X h => ps_dput h.u1 (pe_slot h hN hv hd hcd) (qb X h) (q X h) (hs _), ⟨fun w0 w ρ σ E R k => ?_⟩⟩
  obtain ⟨l, hl, k⟩ := atOd_inv k
  refine v.run w0 w ρ σ _ R (PoS.bind R k fun d u w1 e1 g1 o1 R1 r1 k1 => ?_)
  obtain ⟨a, xs, ea, na, ha, ma, ra, put⟩ := R1.putOd hl
  refine ⟨_, ea, vb.run w0 w1 ρ σ _ R1 (PoS.bind R1 k1 fun kd ku w2 e2 g2 o2 R2 r2 k2 => ?_)⟩
  obtain ⟨a', xs', ea', na', ha', ma', ra', put'⟩ := R2.putOd hl
  rw [ea] at ea'
  cases ea'
  split at k2
  · rename_i z
    obtain ⟨kk, hk⟩ := Option.isSome_iff_exists.mp z.1
    have ek := kyD_kD hk
    subst ek
    obtain ⟨p1, p2⟩ := putK_ok (k := kk) ma' ra' (Rv.grow r1 g2)
    have hz : xs'.length < sizeLine := by
      have := congrArg List.length ma'
      rw [List.length_map, List.length_map] at this
      rw [← this]
      exact Nat.lt_of_lt_of_le z.2 lim_le
    refine ⟨a, upd w2.H a (.dK (L2.putK xs' kk u)), rfl, ?_, k2 { w2 with H := upd w2.H a (.dK (L2.putK xs' kk u)) } σ .of_H rfl (put' _ _ p1 p2)⟩
    rw [Bv.key r2]
    exact .inl ⟨xs', kk, ha', rfl, hz, rfl⟩
  · exact k2.elim
end
section
variable {ρ : Env} {g : G}
@[simp] theorem e_Dic (f : Me (List (D × D))) : eDic f ρ g = mapRe dicD (f ρ g) := rfl
@[simp] theorem d_Emp : dEmp ρ g = .ok [] g := rfl
@[simp] theorem s_OwnD (i : Nat) (fe : Me (List (D × D))) : sOwnD i fe ρ g = (fe ρ g).bindS ρ fun l g => .ok (.nx (ρ.set i (.od l))) g := rfl
@[simp] theorem z_Od (fe : Me (List (D × D))) (fs : Me (List Sl)) : zOd fe fs ρ g = (fe ρ g).bind fun x g => (fs ρ g).bind fun l g => .ok (.od x :: l) g := rfl
@[simp] theorem s_PutD (i : Nat) (fb fe : Me D) : sPutD i fb fe ρ g = match ρ[i]? with
  | some (.od l) => (fe ρ g).bindS ρ fun d g => (fb ρ g).bindS ρ fun k g => if (kyD k).isSome = true ∧ l.length < lim then .ok (.nx (ρ.set i (.od (dPut l k d)))) g else .bad
  | _ => .bad := rfl
end
end Dl
set_option Elab.async false
set_option linter.all false
set_option maxRecDepth 100000
set_option maxHeartbeats 1000000
namespace Dl
open PySem PySem.Spec PyProof.Rows L2 PySem.W
/-! ### less, of lists and tuples -/
def rLtD (K : PySem.W.Frag) : R2 := fun x y H Q => ∃ d e, Dp K H x d ∧ Dp K H y e ∧ PySem.W.alike d e = true ∧ d ≠ .none ∧ d.depth ≤ deep ∧ Q (.bl (PySem.W.dataLt d e)) H
theorem op_ltD {X : Cx} (hu : X.A.units + 64 < cLine) : OpR X (compareOp .Lt) (rLtD X.K) := by
  intro pins s σ H x y v u Q I rx ry h
  obtain ⟨d, e, hd, he, al, nn, dp, q⟩ := h
  obtain ⟨as, r1⟩ := Dp.reads I d x v hd rx
  obtain ⟨bs, r2⟩ := Dp.reads I e y u he ry
  have hm : X.A.units + min d.depth e.depth < cLine := by
    have := Nat.min_le_left d.depth e.depth
    have : deep = 40 := rfl
    omega
  have R := PySem.W.rcLt_alike d e X.A s v u as bs r1 r2 al nn hm
  have z : wpAny (model X.prog X.w) X.A (compareOp .Lt v u) (EP X pins σ Q) X.xe s := R X.prog X.w X.xe (EP X pins σ Q) ⟨.bl _, H, I, rfl, q⟩
  exact z
def ltT : D → D → G → Re D := fun x y g => if (dn deep x && dn deep y && PySem.W.alike x.py y.py && !x.isNon) = true then .ok (.bl (PySem.W.dataLt x.py y.py)) g else .bad
theorem c_ltT {C : Ctx} : Cmp C .Lt (rLtD C.k.K) ltT where
  ho := fun X h => by rw [← h.K]; exact op_ltD h.u64
  hr := by
    intro w σ x y v u Q o bx by_ p
    unfold ltT at p
    split at p
    · rename_i q
      simp only [Bool.and_eq_true] at q
      obtain ⟨⟨⟨q1, q2⟩, q3⟩, q4⟩ := q
      refine ⟨_, _, bx.dp o q1, by_.dp o q2, q3, ?_, (dn_py deep x q1).2, p _ w (.refl o) (.bl _)⟩
      intro z
      cases x with
      | non => cases q4
      | scr l => cases q1
      | hdl => cases q1
      | _ => cases z
    · exact p.elim
theorem lt_tupCons {x y : PyData} {xs ys : List PyData} (h : PySem.W.alike x y = true) : PySem.W.dataLt (.tuple (x :: xs)) (.tuple (y :: ys)) = if PyData.eqv x y = true then PySem.W.dataLt (.tuple xs) (.tuple ys) else PySem.W.dataLt x y := by
  rw [PySem.W.dataLt_tuple, PySem.W.dataLt_tuple]
  split
  · rename_i q; exact PySem.W.dataLt_all_yes h q
  · rename_i q; exact PySem.W.dataLt_all_no h (by simpa using q)
theorem lt_lstCons {x y : PyData} {xs ys : List PyData} (h : PySem.W.alike x y = true) : PySem.W.dataLt (.list (x :: xs)) (.list (y :: ys)) = if PyData.eqv x y = true then PySem.W.dataLt (.list xs) (.list ys) else PySem.W.dataLt x y := by
  rw [PySem.W.dataLt_list, PySem.W.dataLt_list]
  split
  · rename_i q; exact PySem.W.dataLt_all_yes h q
  · rename_i q; exact PySem.W.dataLt_all_no h (by simpa using q)
theorem lt_nil_nil : PySem.W.dataLt (.list []) (.list []) = false := by decide +kernel
theorem lt_nil_cons (y : PyData) (ys : List PyData) : PySem.W.dataLt (.list []) (.list (y :: ys)) = true := by
  rw [PySem.W.dataLt_list]
  rw [PySem.W.toks_all_cons, PySem.W.keyToksAll, PySem.W.lex_atom (by intro z; cases z)]
  decide +kernel
theorem lt_cons_nil (y : PyData) (ys : List PyData) : PySem.W.dataLt (.list (y :: ys)) (.list []) = false := by
  rw [PySem.W.dataLt_list]
  rw [PySem.W.toks_all_cons, PySem.W.keyToksAll, PySem.W.lex_atom (by intro z; cases z)]
  decide +kernel
/-- less, of lists of whole numbers -/
def lexI : List Int → List Int → Bool
  | [], [] => false
  | [], _ :: _ => true
  | _ :: _, [] => false
  | x :: xs, y :: ys => if x = y then lexI xs ys else decide (x < y)
theorem py_ints (l : List Int) : (D.lst (l.map D.int)).py = .list (l.map PyData.int) := by
  rw [D.py, pyL_map, List.map_map]; rfl
theorem lt_ints : ∀ a b : List Int, PySem.W.dataLt (.list (a.map PyData.int)) (.list (b.map PyData.int)) = lexI a b
  | [], [] => lt_nil_nil
  | [], _ :: _ => lt_nil_cons _ _
  | _ :: _, [] => lt_cons_nil _ _
  | x :: xs, y :: ys => by
    have e : PyData.eqv (.int x) (.int y) = decide (x = y) := by
      show (x == y) = _
      by_cases h : x = y
      · rw [decide_eq_true h]; exact beq_iff_eq.mpr h
      · rw [decide_eq_false h]; exact beq_eq_false_iff_ne.mpr h
    rw [List.map_cons, List.map_cons, lt_lstCons rfl, e, lt_ints xs ys, PySem.W.dataLt_int, lexI]
    by_cases h : x = y
    · simp [h]
    · simp [h]
theorem alike_ints : ∀ a b : List Int, PySem.W.alikeAll (a.map PyData.int) (b.map PyData.int) = true
  | [], _ => by rw [List.map_nil, PySem.W.alikeAll]
  | _ :: _, [] => by rw [List.map_cons, List.map_nil, PySem.W.alikeAll]
  | x :: xs, y :: ys => by rw [List.map_cons, List.map_cons, PySem.W.alikeAll, alike_ints xs ys]; rfl
/-! ### min, max of three ints -/
def min3F : List D → G → Re D
  | [.int i, .int j, .int k], g => .ok (.int (min (min i j) k)) g
  | _, _ => .bad
def max3F : List D → G → Re D
  | [.int i, .int j, .int k], g => .ok (.int (max (max i j) k)) g
  | _, _ => .bad
theorem bi_min3 {C : Ctx} : Bi C (rD C.k) (.builtin "min") (rNuC3 nuMin3) min3F where
  hc := fun X h => call_min3Nu h.calm
  hr := by
    intro w σ xs vs Q o b q
    unfold min3F at q
    split at q
    · rename_i i j k
      obtain ⟨u, v, t, e, b1, b2, b3⟩ := BvL.three b
      cases b1.int
      cases b2.int
      cases b3.int
      refine ⟨.int i, .int j, .int k, .int (min (min i j) k), e, ?_, q _ w (.refl o) (.int _)⟩
      have m2 : ∀ i j : Int, nuMin2 (.int i) (.int j) = some (.int (min i j)) := fun i j => by
        show (some (decide (j < i))).map (fun c => if c = true then V.int j else V.int i) = _
        by_cases h : j < i
        · simp [h]; omega
        · simp [h]; omega
      show (nuMin2 (.int i) (.int j)).bind (fun m => nuMin2 m (.int k)) = _
      rw [m2, Option.bind_some, m2]
    · exact q.elim
theorem bi_max3 {C : Ctx} : Bi C (rD C.k) (.builtin "max") (rNuC3 nuMax3) max3F where
  hc := fun X h => call_max3Nu h.calm
  hr := by
    intro w σ xs vs Q o b q
    unfold max3F at q
    split at q
    · rename_i i j k
      obtain ⟨u, v, t, e, b1, b2, b3⟩ := BvL.three b
      cases b1.int
      cases b2.int
      cases b3.int
      refine ⟨.int i, .int j, .int k, .int (max (max i j) k), e, ?_, q _ w (.refl o) (.int _)⟩
      have m2 : ∀ i j : Int, nuMax2 (.int i) (.int j) = some (.int (max i j)) := fun i j => by
        show (some (decide (i < j))).map (fun c => if c = true then V.int j else V.int i) = _
        by_cases h : i < j
        · simp [h]; omega
        · simp [h]; omega
      show (nuMax2 (.int i) (.int j)).bind (fun m => nuMax2 m (.int k)) = _
      rw [m2, Option.bind_some, m2]
    · exact q.elim
@[simp] theorem min3_int (i j k : Int) (g : G) : min3F [.int i, .int j, .int k] g = .ok (.int (min (min i j) k)) g := rfl
@[simp] theorem max3_int (i j k : Int) (g : G) : max3F [.int i, .int j, .int k] g = .ok (.int (max (max i j) k)) g := rfl
/-! ### max, min of a list or a tuple of ints -/
theorem readsAll_ints {h : Heap} {ns : List Int} : ∀ {its : List Value}, Vals (ns.map V.int) its → ∃ as, ReadsAll h its (ns.map PyData.int) as := by
  induction ns with
  | nil => intro its r; cases r; exact ⟨_, .nil⟩
  | cons n r ih =>
    intro its v
    rw [List.map_cons] at v
    cases v with
    | cons h1 t =>
      obtain ⟨as, q⟩ := ih t
      obtain ⟨tk, rfl⟩ := h1
      exact ⟨_, .cons (.int n tk) q⟩
theorem alikeAll_ints (ns : List Int) : AlikeAll (ns.map PyData.int) := by
  refine ⟨fun x hx y hy => ?_, fun x hx => ?_⟩
  · obtain ⟨i, _, rfl⟩ := List.mem_map.mp hx
    obtain ⟨j, _, rfl⟩ := List.mem_map.mp hy
    rfl
  · obtain ⟨i, _, rfl⟩ := List.mem_map.mp hx
    exact fun z => nomatch z
theorem depth_ints : ∀ ns : List Int, PyData.depthAll (ns.map PyData.int) = 0
  | [] => rfl
  | n :: r => by rw [List.map_cons, PyData.depthAll, depth_ints r]; rfl
theorem reads_int {h : Heap} {v : Value} {i : Int} {as : List Addr} (r : Reads h v (.int i) as) : ∃ t, v = .int i t := by
  cases r; exact ⟨_, rfl⟩
def rMm (K : PySem.W.Frag) (f : Int → Int → Int) : List V → Hp → VK → Prop := fun vs H Q => ∃ (a : Addr) (n : Int) (ns : List Int), vs = [V.ref a] ∧ (SqL K H a ((n :: ns).map V.int) ∨ SqT K H a ((n :: ns).map V.int)) ∧ Q (.int (ns.foldl f n)) H
theorem PlainL.isList' {h : Heap} {a : Addr} {its : Array Value} (p : PlainL h a its) : h.IsList a its := p.isList
theorem cr_maxS {X : Cx} (hc : X.calm = true) (hu : X.A.units + 64 < cLine) : CallR X (.builtin "max") (rMm X.K max) := by
  intro pins s σ H vs us Q I r h
  obtain ⟨a, n, ns, rfl, hs, q⟩ := h
  rw [Vals.ref1 r]
  rcases hs with hs | hs
  · obtain ⟨its, rv, hl, _⟩ := I.list hs
    obtain ⟨as, ra⟩ := readsAll_ints (h := s.heap) rv
    refine max_list_data (I.ok.hd hc) hl.isList (x := .int n) (xs := ns.map PyData.int) ra (alikeAll_ints (n :: ns)) (by have := depth_ints (n :: ns); rw [List.map_cons] at this; rw [this]; omega) fun i v h' tk bs hv hr hk => ?_
    rw [maxD_ints] at hr
    obtain ⟨t, rfl⟩ := reads_int hr
    exact ⟨.int _, H, I.kept hk, ⟨_, rfl⟩, q⟩
  · obtain ⟨its, rv, hl, _⟩ := I.tuple hs
    obtain ⟨as, ra⟩ := readsAll_ints (h := s.heap) rv
    refine max_tuple_data (I.ok.hd hc) hl (x := .int n) (xs := ns.map PyData.int) ra (alikeAll_ints (n :: ns)) (by have := depth_ints (n :: ns); rw [List.map_cons] at this; rw [this]; omega) fun i v h' tk bs hv hr hk => ?_
    rw [maxD_ints] at hr
    obtain ⟨t, rfl⟩ := reads_int hr
    exact ⟨.int _, H, I.kept hk, ⟨_, rfl⟩, q⟩
theorem cr_minS {X : Cx} (hc : X.calm = true) (hu : X.A.units + 64 < cLine) : CallR X (.builtin "min") (rMm X.K min) := by
  intro pins s σ H vs us Q I r h
  obtain ⟨a, n, ns, rfl, hs, q⟩ := h
  rw [Vals.ref1 r]
  rcases hs with hs | hs
  · obtain ⟨its, rv, hl, _⟩ := I.list hs
    obtain ⟨as, ra⟩ := readsAll_ints (h := s.heap) rv
    refine min_list_data (I.ok.hd hc) hl.isList (x := .int n) (xs := ns.map PyData.int) ra (alikeAll_ints (n :: ns)) (by have := depth_ints (n :: ns); rw [List.map_cons] at this; rw [this]; omega) fun i v h' tk bs hv hr hk => ?_
    rw [minD_ints] at hr
    obtain ⟨t, rfl⟩ := reads_int hr
    exact ⟨.int _, H, I.kept hk, ⟨_, rfl⟩, q⟩
  · obtain ⟨its, rv, hl, _⟩ := I.tuple hs
    obtain ⟨as, ra⟩ := readsAll_ints (h := s.heap) rv
    refine min_tuple_data (I.ok.hd hc) hl (x := .int n) (xs := ns.map PyData.int) ra (alikeAll_ints (n :: ns)) (by have := depth_ints (n :: ns); rw [List.map_cons] at this; rw [this]; omega) fun i v h' tk bs hv hr hk => ?_
    rw [minD_ints] at hr
    obtain ⟨t, rfl⟩ := reads_int hr
    exact ⟨.int _, H, I.kept hk, ⟨_, rfl⟩, q⟩
def ltOf : D → Option (List Int)
  | .lst l => intsD l
  | .tup l => intsD l
  | _ => none
def maxSF : List D → G → Re D
  | [d], g => match ltOf d with
    | some (n :: ns) => .ok (.int (ns.foldl max n)) g
    | _ => .bad
  | _, _ => .bad
def minSF : List D → G → Re D
  | [d], g => match ltOf d with
    | some (n :: ns) => .ok (.int (ns.foldl min n)) g
    | _ => .bad
  | _, _ => .bad
theorem ltOf_bv {K : PySem.W.Frag} {w : Wd} {v : V} {d : D} {ns : List Int} (o : Wok w) (b : Bv K w v d) (h : ltOf d = some ns) : ∃ a, v = .ref a ∧ (SqL K w.H a (ns.map V.int) ∨ SqT K w.H a (ns.map V.int)) := by
  cases d with
  | lst l =>
    obtain ⟨a, xs, e, s, r⟩ := b.lst o
    rw [ints_map h] at r
    cases RvL.ints_inv r
    exact ⟨a, e, .inl (.inl (.inl s))⟩
  | tup l =>
    obtain ⟨a, xs, e, s, r, _⟩ := b.tup o
    rw [ints_map h] at r
    cases RvL.ints_inv r
    exact ⟨a, e, .inr s.sq⟩
  | _ => cases h
theorem bi_maxS {C : Ctx} : Bi C (rD C.k) (.builtin "max") (rMm C.k.K max) maxSF where
  hc := fun X h => by rw [← h.K]; exact cr_maxS h.calm h.u64
  hr := by
    intro w σ xs vs Q o b q
    unfold maxSF at q
    split at q
    · obtain ⟨u, e, b1⟩ := BvL.one b
      split at q
      · rename_i n ns hn
        obtain ⟨a, e2, s⟩ := ltOf_bv o b1 hn
        subst e e2
        exact ⟨a, n, ns, rfl, s, q _ w (.refl o) (.int _)⟩
      · exact q.elim
    · exact q.elim
theorem bi_minS {C : Ctx} : Bi C (rD C.k) (.builtin "min") (rMm C.k.K min) minSF where
  hc := fun X h => by rw [← h.K]; exact cr_minS h.calm h.u64
  hr := by
    intro w σ xs vs Q o b q
    unfold minSF at q
    split at q
    · obtain ⟨u, e, b1⟩ := BvL.one b
      split at q
      · rename_i n ns hn
        obtain ⟨a, e2, s⟩ := ltOf_bv o b1 hn
        subst e e2
        exact ⟨a, n, ns, rfl, s, q _ w (.refl o) (.int _)⟩
      · exact q.elim
    · exact q.elim
@[simp] theorem ltOf_lst (l : List Int) : ltOf (.lst (l.map D.int)) = some l := ints_of l
@[simp] theorem ltOf_tup (l : List Int) : ltOf (.tup (l.map D.int)) = some l := ints_of l
@[simp] theorem max_S (d : D) (g : G) : maxSF [d] g = match ltOf d with
    | some (n :: ns) => .ok (.int (ns.foldl max n)) g
    | _ => .bad := rfl
@[simp] theorem min_S (d : D) (g : G) : minSF [d] g = match ltOf d with
    | some (n :: ns) => .ok (.int (ns.foldl min n)) g
    | _ => .bad := rfl
end Dl
set_option Elab.async false
set_option linter.all false
set_option maxRecDepth 100000
set_option maxHeartbeats 1000000
namespace Wk
open PySem L2 Dl
def m__law_folded : Ms := (sSeq (sOwn 1 (eComp (yR1 (aCons (eC (.int 64)) aNil)) [2] (bOne (bName 2)) tmYes (eOp addD (eC (.int 17)) (eVar 2)))) (sSeq (sFor (yEn (aCons (eVar 0) aNil)) (bMany 2 (bCons (bName 2) (bCons (bName 3) bNil))) [2, 3] (sPut 1 (eOp (arI modI) (eArgs intF (aCons (eVar 2) aNil)) (eC (.int 64))) (eOp (arI modI) (eArgs intF (aCons (eOp addD (eOp mulD (eOp ixF (eBor 1) (eOp (arI modI) (eArgs intF (aCons (eVar 2) aNil)) (eC (.int 64)))) (eC (.int 48271))) (eVar 3)) aNil)) (eC (.int 2147483647))))) (sSeq (sFor (yR2 (aCons (eC (.int 1)) (aCons (eC (.int 64)) aNil))) (bOne (bName 2)) [2] (sPut 1 (eVar 2) (eOp (arI modI) (eArgs intF (aCons (eOp addD (eOp ixF (eBor 1) (eVar 2)) (eOp mulD (eOp ixF (eBor 1) (eOp (arI subI) (eVar 2) (eC (.int 1)))) (eC (.int 16807)))) aNil)) (eC (.int 2147483647))))) (frzM 1 (sRet (eVar 1))))))
def F__law_folded : List D → G → Re D := bodyF 4 m__law_folded
def m__law_begun : Ms := (sBegin 1 (eCall 1 F__law_folded (aCons (eVar 0) aNil)) (eComp (yVal (eVar 0)) [2] (bOne (bName 2)) tmYes (eIf (asB (eOp geF (eVar 2) (eOp (arI powI) (eC (.int 10)) (eC (.int 18))))) (eVar 2) (eC (.int 0)))) (sRet (eVar 1)))
def F__law_begun : List D → G → Re D := bodyF 3 m__law_begun
def m__law_mixed : Ms := (sSeq (sSet 2 (eOp addD (eOp addD (eOp (arI modI) (eArgs intF (aCons (eOp mulD (eOp mulD (eVar 0) (eOp addD (eC (.int 1)) (eOp mulD (eC (.int 2)) (eVar 1)))) (eC (.int 48271))) aNil)) (eC (.int 2147483647))) (eOp mulD (eOp mulD (eC (.int 7919)) (eVar 1)) (eVar 1))) (eOp mulD (eC (.int 104729)) (eVar 1)))) (sRet (eOp (arI divI) (eOp (arI modI) (eArgs intF (aCons (eOp mulD (eVar 2) (eC (.int 69621))) aNil)) (eC (.int 2147483629))) (eC (.int 7)))))
def F__law_mixed : List D → G → Re D := bodyF 3 m__law_mixed
def m__law_draw : Ms := (sSeq (sSet 2 (eSpot 0)) (sSeq (sSpot 0 (eOp addD (eVar 2) (eC (.int 1)))) (sSeq (sIf (tGreat 0) (sSeq (sAlias 0 3 true) (sSeq (sSet 4 (eOp (arI modI) (eArgs intF (aCons (eVar 2) aNil)) (eLenA 3))) (sSeq (sSet 5 (eIxA 3 (eVar 4))) (sIf (asB (eOp gtF (eVar 5) (eC (.int 0)))) (sSeq (sPutA 3 (eVar 4) (eOp (arI divI) (eVar 5) (eVar 1))) (sRet (eOp (arI modI) (eArgs intF (aCons (eVar 5) aNil)) (eVar 1)))) sNil)))) sNil) (sSeq (sAlias 0 3 false) (sRet (eOp (arI modI) (eArgs intF (aCons (eCall 2 F__law_mixed (aCons (eCall 2 F__law_mixed (aCons (eOp addD (eIxA 3 (eOp (arI modI) (eArgs intF (aCons (eVar 2) aNil)) (eC (.int 64)))) (eOp mulD (eC (.int 31)) (eOp (arI divI) (eVar 2) (eC (.int 64))))) (aCons (eVar 2) aNil))) (aCons (eOp addD (eVar 2) (eC (.int 7))) aNil))) aNil)) (eVar 1)))))))
def F__law_draw : List D → G → Re D := bodyF 6 m__law_draw
def m__law_tens : Ms := (sSeq (sSet 1 (eC (.int 1))) (sSeq (sFor (yR1 (aCons (eVar 0) aNil)) (bOne (bName 2)) [2] (sSet 1 (eOp mulD (eVar 1) (eC (.int 10))))) (sRet (eVar 1))))
def F__law_tens : List D → G → Re D := bodyF 3 m__law_tens
def m__law_times : Ms := (sSeq (sIf (asB (eOp eqF (eCall 2 F__law_draw (aCons (eVar 0) (aCons (eC (.int 2)) aNil))) (eC (.int 0)))) (sRet (eOp addD (eC (.int 1)) (eCall 2 F__law_draw (aCons (eVar 0) (aCons (eC (.int 4)) aNil))))) sNil) (sSeq (sSet 1 (eC (.int 0))) (sSeq (sFor (yR1 (aCons (eC (.int 4)) aNil)) (bOne (bName 2)) [2] (sSet 1 (eOp addD (eOp mulD (eVar 1) (eC (.int 100000000))) (eCall 2 F__law_draw (aCons (eVar 0) (aCons (eC (.int 100000000)) aNil)))))) (sRet (eOp addD (eC (.int 1)) (eOp (arI modI) (eArgs intF (aCons (eVar 1) aNil)) (eCall 1 F__law_tens (aCons (eOp addD (eC (.int 1)) (eCall 2 F__law_draw (aCons (eVar 0) (aCons (eC (.int 30)) aNil)))) aNil))))))))
def F__law_times : List D → G → Re D := bodyF 3 m__law_times
def m__law_wide_row : Ms := (sSeq (sOwn 3 (eList aNil)) (sSeq (sFor (yR1 (aCons (eOp addD (eC (.int 1)) (eCall 2 F__law_draw (aCons (eVar 0) (aCons (eVar 2) aNil)))) aNil)) (bOne (bName 4)) [4, 5] (sSeq (sSet 5 (eOp addD (eC (.int 1)) (eCall 2 F__law_draw (aCons (eVar 0) (aCons (eIf (asB (eOp eqF (eCall 2 F__law_draw (aCons (eVar 0) (aCons (eC (.int 6)) aNil))) (eC (.int 0)))) (eC (.int 40)) (eC (.int 6))) aNil))))) (sApp 3 (eTup (aCons (eArgs tupF (aCons (eLst (eComp (yR1 (aCons (eVar 5) aNil)) [6] (bOne (bName 6)) tmYes (eCall 2 F__law_draw (aCons (eVar 0) (aCons (eVar 1) aNil))))) aNil)) (aCons (eCall 1 F__law_times (aCons (eVar 0) aNil)) aNil)))))) (sRet (eArgs tupF (aCons (eBor 3) aNil)))))
def F__law_wide_row : List D → G → Re D := bodyF 7 m__law_wide_row
def m__law_size : Ms := (sRet (eArgs sumF (aCons (eLst (eComp (yVal (eVar 0)) [1, 2] (bOne (bTup 2 (bCons (bName 1) (bCons (bName 2) bNil)))) tmYes (eOp mulD (eArgs lenF (aCons (eVar 1) aNil)) (eVar 2)))) aNil)))
def F__law_size : List D → G → Re D := bodyF 3 m__law_size
def m__law_below : Ms := (sSeq (sSet 2 (eC (.int 0))) (sSeq (sFor (yR1 (aCons (eC (.int 5)) aNil)) (bOne (bName 3)) [3] (sSet 2 (eOp addD (eOp mulD (eVar 2) (eC (.int 1000000000))) (eCall 2 F__law_draw (aCons (eVar 0) (aCons (eC (.int 1000000000)) aNil)))))) (sRet (eOp (arI modI) (eArgs intF (aCons (eVar 2) aNil)) (eVar 1)))))
def F__law_below : List D → G → Re D := bodyF 4 m__law_below
def m__law_rewritten : Ms := (sSeq (sOwn 2 (eList aNil)) (sSeq (sFor (yVal (eVar 1)) (bOne (bTup 2 (bCons (bName 3) (bCons (bName 4) bNil)))) [3, 4, 5, 6, 7, 8] (sSeq (sPar 5 6 (zIm (eCall 2 F__law_draw (aCons (eVar 0) (aCons (eC (.int 4)) aNil))) (zIm (eArgs lenF (aCons (eVar 3) aNil)) zNil))) (sIf (tAndM (asB (eOp eqF (eVar 5) (eC (.int 0)))) (asB (eOp gtF (eVar 4) (eC (.int 1))))) (sSeq (sSet 7 (eOp addD (eC (.int 1)) (eCall 2 F__law_below (aCons (eVar 0) (aCons (eOp (arI subI) (eVar 4) (eC (.int 1))) aNil))))) (sOwn 2 (eOp catL (eBor 2) (eLst (eList (aCons (eTup (aCons (eVar 3) (aCons (eVar 7) aNil))) (aCons (eTup (aCons (eVar 3) (aCons (eOp (arI subI) (eVar 4) (eVar 7)) aNil))) aNil))))))) (sIf (tAndM (asB (eOp eqF (eVar 5) (eC (.int 1)))) (tAndM (asB (eOp gtF (eVar 4) (eC (.int 1)))) (asB (eOp leF (eVar 6) (eC (.int 30)))))) (sOwn 2 (eOp catL (eOp addD (eBor 2) (eLst (eList (aCons (eTup (aCons (eOp addD (eVar 3) (eVar 3)) (aCons (eOp (arI divI) (eVar 4) (eC (.int 2))) aNil))) aNil)))) (eIf (asB (eOp eqF (eOp (arI modI) (eArgs intF (aCons (eVar 4) aNil)) (eC (.int 2))) (eC (.int 1)))) (eLst (eList (aCons (eTup (aCons (eVar 3) (aCons (eC (.int 1)) aNil))) aNil))) (eLst (eList aNil))))) (sIf (tAndM (asB (eOp eqF (eVar 5) (eC (.int 2)))) (tAndM (asB (eOp gtF (eVar 4) (eC (.int 1)))) (asB (eOp gtF (eVar 6) (eC (.int 1)))))) (sSeq (sSet 8 (eOp addD (eC (.int 1)) (eCall 2 F__law_draw (aCons (eVar 0) (aCons (eOp (arI subI) (eVar 6) (eC (.int 1))) aNil))))) (sOwn 2 (eOp catL (eBor 2) (eLst (eList (aCons (eTup (aCons (eSl slF (eVar 3) oNone (oSome (eVar 8))) (aCons (eC (.int 1)) aNil))) (aCons (eTup (aCons (eOp addD (eSl slF (eVar 3) (oSome (eVar 8)) oNone) (eSl slF (eVar 3) oNone (oSome (eVar 8)))) (aCons (eOp (arI subI) (eVar 4) (eC (.int 1))) aNil))) (aCons (eTup (aCons (eSl slF (eVar 3) (oSome (eVar 8)) oNone) (aCons (eC (.int 1)) aNil))) aNil)))))))) (sApp 2 (eTup (aCons (eVar 3) (aCons (eVar 4) aNil))))))))) (sRet (eArgs tupF (aCons (eBor 2) aNil)))))
def F__law_rewritten : List D → G → Re D := bodyF 9 m__law_rewritten
def m__law_of : Ms := (sRet (eOp ixF (eVar 1) (eCall 2 F__law_draw (aCons (eVar 0) (aCons (eArgs lenF (aCons (eVar 1) aNil)) aNil)))))
def F__law_of : List D → G → Re D := bodyF 2 m__law_of
def m__law_borders : Ms := (sSeq (sOwn 1 (eList (aCons (eC (.int 0)) aNil))) (sSeq (sFor (yVal (eVar 0)) (bOne (bTup 2 (bCons (bName 2) (bCons (bName 3) bNil)))) [2, 3] (sApp 1 (eOp addD (eOp ixF (eBor 1) (eUn negD (eC (.int 1)))) (eOp mulD (eArgs lenF (aCons (eVar 2) aNil)) (eVar 3))))) (frzM 1 (sRet (eVar 1)))))
def F__law_borders : List D → G → Re D := bodyF 4 m__law_borders
def m__law_spot : Ms := (sSeq (sSet 2 (eCall 1 F__law_size (aCons (eVar 1) aNil))) (sSeq (sIf (asB (eOp eqF (eCall 2 F__law_draw (aCons (eVar 0) (aCons (eC (.int 3)) aNil))) (eC (.int 0)))) (sRet (eCall 2 F__law_below (aCons (eVar 0) (aCons (eVar 2) aNil)))) sNil) (sRet (eArgs min2F (aCons (eArgs max2F (aCons (eOp (arI subI) (eOp addD (eCall 2 F__law_of (aCons (eVar 0) (aCons (eCall 1 F__law_borders (aCons (eVar 1) aNil)) aNil))) (eCall 2 F__law_draw (aCons (eVar 0) (aCons (eC (.int 15)) aNil)))) (eC (.int 7))) (aCons (eC (.int 0)) aNil))) (aCons (eOp (arI subI) (eVar 2) (eC (.int 1))) aNil))))))
def F__law_spot : List D → G → Re D := bodyF 3 m__law_spot
def m__law_mark : Ms := (sSeq (sFor (yVal (eVar 0)) (bOne (bTup 2 (bCons (bName 2) (bCons (bName 3) bNil)))) [2, 3] (sSeq (sIf (asB (eOp ltF (eVar 1) (eOp mulD (eArgs lenF (aCons (eVar 2) aNil)) (eVar 3)))) (sRet (eOp ixF (eVar 2) (eOp (arI modI) (eArgs intF (aCons (eVar 1) aNil)) (eArgs lenF (aCons (eVar 2) aNil))))) sNil) (sSet 1 (eOp (arI subI) (eVar 1) (eOp mulD (eArgs lenF (aCons (eVar 2) aNil)) (eVar 3)))))) (sRet (eC .non)))
def F__law_mark : List D → G → Re D := bodyF 4 m__law_mark
def m__law_piece : Ms := (sSeq (sPar 3 4 (zOw (eList aNil) (zIm (eC (.int 0)) zNil))) (sSeq (sFor (yVal (eVar 0)) (bOne (bTup 2 (bCons (bName 5) (bCons (bName 6) bNil)))) [5, 6, 7, 8, 9, 10, 11, 12] (sSeq (sSet 7 (eArgs lenF (aCons (eVar 5) aNil))) (sSeq (sPar 8 9 (zIm (eOp (arI subI) (eArgs max2F (aCons (eVar 1) (aCons (eVar 4) aNil))) (eVar 4)) (zIm (eOp (arI subI) (eArgs min2F (aCons (eVar 2) (aCons (eOp addD (eVar 4) (eOp mulD (eVar 7) (eVar 6))) aNil))) (eVar 4)) zNil))) (sSeq (sSet 4 (eOp addD (eVar 4) (eOp mulD (eVar 7) (eVar 6)))) (sSeq (sPar 10 11 (zIm (eOp (arI modI) (eArgs intF (aCons (eVar 8) aNil)) (eVar 7)) (zIm (eOp (arI modI) (eArgs intF (aCons (eVar 9) aNil)) (eVar 7)) zNil))) (sIf (tAndM (asB (eOp ltF (eVar 8) (eVar 9))) (asB (eOp eqF (eOp (arI divI) (eVar 8) (eVar 7)) (eOp (arI divI) (eOp (arI subI) (eVar 9) (eC (.int 1))) (eVar 7))))) (sApp 3 (eTup (aCons (eSl slF (eVar 5) (oSome (eVar 10)) (oSome (eOp (arI subI) (eOp addD (eVar 10) (eVar 9)) (eVar 8)))) (aCons (eC (.int 1)) aNil)))) (sIf (asB (eOp ltF (eVar 8) (eVar 9))) (sSeq (sSet 12 (eLst (eList (aCons (eTup (aCons (eSl slF (eVar 5) (oSome (eVar 10)) oNone) (aCons (eArgs intF (aCons (eOp gtF (eVar 10) (eC (.int 0))) aNil)) aNil))) (aCons (eTup (aCons (eVar 5) (aCons (eOp (arI subI) (eOp (arI divI) (eVar 9) (eVar 7)) (eOp (arI divI) (eOp (arI subI) (eOp addD (eVar 8) (eVar 7)) (eC (.int 1))) (eVar 7))) aNil))) aNil))))) (sOwn 3 (eOp catL (eBor 3) (eLst (eComp (yVal (eOp addD (eVar 12) (eLst (eList (aCons (eTup (aCons (eSl slF (eVar 5) oNone (oSome (eVar 11))) (aCons (eArgs intF (aCons (eOp gtF (eVar 11) (eC (.int 0))) aNil)) aNil))) aNil))))) [13] (bOne (bName 13)) (asB (eOp gtF (eOp ixF (eVar 13) (eC (.int 1))) (eC (.int 0)))) (eVar 13)))))) sNil))))))) (sRet (eArgs tupF (aCons (eBor 3) aNil)))))
def F__law_piece : List D → G → Re D := bodyF 14 m__law_piece
def m__law_like : Ms := (sRet (eOp eqF (eArgs reprF (aCons (eVar 0) aNil)) (eArgs reprF (aCons (eVar 1) aNil))))
def F__law_like : List D → G → Re D := bodyF 2 m__law_like
def m__law_marks : Ms := (sRet (eLst (eComp (yR1 (aCons (eCall 2 F__law_draw (aCons (eVar 0) (aCons (eOp addD (eVar 2) (eC (.int 1))) aNil))) aNil)) [3] (bOne (bName 3)) tmYes (eCall 2 F__law_draw (aCons (eVar 0) (aCons (eVar 1) aNil))))))
def F__law_marks : List D → G → Re D := bodyF 4 m__law_marks
def m__law_row : Ms := (sSeq (sOwn 2 (eList aNil)) (sSeq (sFor (yR1 (aCons (eCall 2 F__law_draw (aCons (eVar 0) (aCons (eC (.int 4)) aNil))) aNil)) (bOne (bName 3)) [3, 4] (sSeq (sSet 4 (eOp addD (eLst (eList (aCons (eCall 2 F__law_draw (aCons (eVar 0) (aCons (eVar 1) aNil))) aNil))) (eCall 3 F__law_marks (aCons (eVar 0) (aCons (eVar 1) (aCons (eC (.int 3)) aNil)))))) (sApp 2 (eTup (aCons (eArgs tupF (aCons (eVar 4) aNil)) (aCons (eOp addD (eC (.int 1)) (eCall 2 F__law_draw (aCons (eVar 0) (aCons (eC (.int 3)) aNil)))) aNil)))))) (sRet (eArgs tupF (aCons (eBor 2) aNil)))))
def F__law_row : List D → G → Re D := bodyF 5 m__law_row
def m__law_two_periods : Ms := (sSeq (sPar 2 3 (zIm (eOp (arI subI) (eOp addD (eVar 0) (eVar 1)) (eC (.int 2))) (zOd dEmp zNil))) (sSeq (sFor (yR1 (aCons (eVar 2) aNil)) (bOne (bName 4)) [4, 5, 6, 7, 8, 9] (sIf (asB (eOp (inF true) (eVar 4) (eBor 3))) (sSeq (sPar 5 6 (zIm (eArgs intF (aCons (eOp neF (eBor 3) (eDic dEmp)) aNil)) (zOw (eList (aCons (eVar 4) aNil)) zNil))) (sSeq (sPutD 3 (eVar 4) (eVar 5)) (sFor (yR1 (aCons (eVar 2) aNil)) (bOne (bName 7)) [7, 8, 9] (sSeq (sIf (asB (eOp eqF (eVar 7) (eArgs lenF (aCons (eBor 6) aNil)))) sBrk sNil) (sFor (yVal (eTup (aCons (eVar 0) (aCons (eVar 1) (aCons (eOp (arI subI) (eC (.int 0)) (eVar 0)) (aCons (eOp (arI subI) (eC (.int 0)) (eVar 1)) aNil)))))) (bOne (bName 8)) [8, 9] (sSeq (sSet 9 (eOp addD (eOp ixF (eBor 6) (eVar 7)) (eVar 8))) (sIf (tAndM (asB (eChain leF ltF (eC (.int 0)) (eVar 9) (eVar 2))) (asB (eOp (inF true) (eVar 9) (eBor 3)))) (sSeq (sPutD 3 (eVar 9) (eVar 5)) (sApp 6 (eVar 9))) sNil))))))) sNil)) (sRet (eArgs tupF (aCons (eLst (eComp (yR1 (aCons (eVar 2) aNil)) [10] (bOne (bName 10)) tmYes (eOp ixF (eBor 3) (eVar 10)))) aNil)))))
def F__law_two_periods : List D → G → Re D := bodyF 11 m__law_two_periods
def m__law_end : Ms := (sSeq (sSet 2 (eLst (eList (aCons (eCall 1 F__law_size (aCons (eVar 0) aNil)) (aCons (eCall 1 F__law_size (aCons (eVar 1) aNil)) aNil))))) (sSeq (sFor (yR1 (aCons (eArgs min3F (aCons (eOp ixF (eVar 2) (eC (.int 0))) (aCons (eOp ixF (eVar 2) (eC (.int 1))) (aCons (eC (.int 200)) aNil)))) aNil)) (bOne (bName 3)) [3] (sIf (asB (eOp neF (eCall 2 F__law_mark (aCons (eVar 0) (aCons (eOp (arI subI) (eOp (arI subI) (eOp ixF (eVar 2) (eC (.int 0))) (eC (.int 1))) (eVar 3)) aNil))) (eCall 2 F__law_mark (aCons (eVar 1) (aCons (eOp (arI subI) (eOp (arI subI) (eOp ixF (eVar 2) (eC (.int 1))) (eC (.int 1))) (eVar 3)) aNil))))) (sRet (eVar 3)) sNil)) (sRet (eArgs minSF (aCons (eVar 2) aNil)))))
def F__law_end : List D → G → Re D := bodyF 4 m__law_end
def m_is_whole : Ms := (sRet (eAnd (eIs "int" (eVar 0)) (eNot (eIs "bool" (eVar 0)))))
def F_is_whole : List D → G → Re D := bodyF 1 m_is_whole
def m_is_within : Ms := (sRet (eAnd (eCall 1 F_is_whole (aCons (eVar 0) aNil)) (eChain leF leF (eVar 1) (eVar 0) (eVar 2))))
def F_is_within : List D → G → Re D := bodyF 3 m_is_within
def m_is_tuple_of : Ms := (sRet (eAnd (eIs "tuple" (eVar 0)) (eOp eqF (eArgs lenF (aCons (eVar 0) aNil)) (eVar 1))))
def F_is_tuple_of : List D → G → Re D := bodyF 2 m_is_tuple_of
def m_is_block : Ms := (sSeq (sIf (tOrM (tNotM (eTru (eCall 2 F_is_tuple_of (aCons (eVar 0) (aCons (eC (.int 2)) aNil))))) (tOrM (tNotM (eTru (eIs "tuple" (eOp ixF (eVar 0) (eC (.int 0)))))) (tNotM (asB (eChain leF leF (eC (.int 1)) (eArgs lenF (aCons (eOp ixF (eVar 0) (eC (.int 0))) aNil)) (eC (.int 60))))))) (sRet (eC (.bl false))) sNil) (sRet (eAnd (eCall 3 F_is_within (aCons (eOp ixF (eVar 0) (eC (.int 1))) (aCons (eC (.int 1)) (aCons (eC (.int 1000000000000000000000000000000)) aNil)))) (eArgs allF (aCons (eLst (eComp (yVal (eOp ixF (eVar 0) (eC (.int 0)))) [1] (bOne (bName 1)) tmYes (eCall 3 F_is_within (aCons (eVar 1) (aCons (eC (.int 0)) (aCons (eC (.int 3)) aNil)))))) aNil)))))
def F_is_block : List D → G → Re D := bodyF 2 m_is_block
def m_need_row : Ms := (sSeq (sIf (tOrM (tNotM (eTru (eIs "tuple" (eVar 0)))) (asB (eOp gtF (eArgs lenF (aCons (eVar 0) aNil)) (eC (.int 60))))) sBad sNil) (sSeq (sFor (yEn (aCons (eVar 0) aNil)) (bMany 2 (bCons (bName 1) (bCons (bName 2) bNil))) [1, 2] (sIf (tNotM (eTru (eCall 1 F_is_block (aCons (eVar 2) aNil)))) sBad sNil)) (sRet (eVar 0))))
def F_need_row : List D → G → Re D := bodyF 3 m_need_row
def m_parting_within : Ms := (sSeq (sFor (yR1 (aCons (eArgs min2F (aCons (eVar 4) (aCons (eOp addD (eArgs lenF (aCons (eVar 0) aNil)) (eArgs lenF (aCons (eVar 2) aNil))) aNil))) aNil)) (bOne (bName 5)) [5] (sIf (asB (eOp neF (eOp ixF (eVar 0) (eOp (arI modI) (eOp addD (eVar 1) (eVar 5)) (eArgs lenF (aCons (eVar 0) aNil)))) (eOp ixF (eVar 2) (eOp (arI modI) (eOp addD (eVar 3) (eVar 5)) (eArgs lenF (aCons (eVar 2) aNil)))))) (sRet (eVar 5)) sNil)) (sRet (eC .non)))
def F_parting_within : List D → G → Re D := bodyF 6 m_parting_within
def m_unlike_place : Ms := (sSeq (sAsg (eTup (aCons (eC (.int 0)) (aCons (eC (.int 0)) (aCons (eC (.int 0)) (aCons (eC (.int 0)) (aCons (eC (.int 0)) aNil)))))) (bTup 5 (bCons (bName 2) (bCons (bName 3) (bCons (bName 4) (bCons (bName 5) (bCons (bName 6) bNil))))))) (sSeq (sWhile (tAndM (asB (eOp ltF (eVar 2) (eArgs lenF (aCons (eVar 0) aNil)))) (asB (eOp ltF (eVar 3) (eArgs lenF (aCons (eVar 1) aNil))))) [7, 8, 9, 10, 11, 12] (sSeq (sAsg (eOp ixF (eVar 0) (eVar 2)) (bTup 2 (bCons (bName 7) (bCons (bName 8) bNil)))) (sSeq (sAsg (eOp ixF (eVar 1) (eVar 3)) (bTup 2 (bCons (bName 9) (bCons (bName 10) bNil)))) (sSeq (sSet 11 (eArgs min2F (aCons (eOp (arI subI) (eOp mulD (eArgs lenF (aCons (eVar 7) aNil)) (eVar 8)) (eVar 4)) (aCons (eOp (arI subI) (eOp mulD (eArgs lenF (aCons (eVar 9) aNil)) (eVar 10)) (eVar 5)) aNil)))) (sSeq (sSet 12 (eCall 5 F_parting_within (aCons (eVar 7) (aCons (eVar 4) (aCons (eVar 9) (aCons (eVar 5) (aCons (eVar 11) aNil))))))) (sSeq (sIf (asB (eOp isntF (eVar 12) (eC .non))) (sRet (eOp addD (eVar 6) (eVar 12))) sNil) (sSeq (sParT 6 4 5 (aCons (eOp addD (eVar 6) (eVar 11)) (aCons (eOp addD (eVar 4) (eVar 11)) (aCons (eOp addD (eVar 5) (eVar 11)) aNil)))) (sSeq (sIf (asB (eOp eqF (eVar 4) (eOp mulD (eArgs lenF (aCons (eVar 7) aNil)) (eVar 8)))) (sPar 2 4 (zIm (eOp addD (eVar 2) (eC (.int 1))) (zIm (eC (.int 0)) zNil))) sNil) (sIf (asB (eOp eqF (eVar 5) (eOp mulD (eArgs lenF (aCons (eVar 9) aNil)) (eVar 10)))) (sPar 3 5 (zIm (eOp addD (eVar 3) (eC (.int 1))) (zIm (eC (.int 0)) zNil))) sNil))))))))) (sRet (eIf (tAndM (asB (eOp eqF (eVar 2) (eArgs lenF (aCons (eVar 0) aNil)))) (asB (eOp eqF (eVar 3) (eArgs lenF (aCons (eVar 1) aNil))))) (eC .non) (eVar 6)))))
def F_unlike_place : List D → G → Re D := bodyF 13 m_unlike_place
def m_first_unlike : Ms := (sSeq (sExpr (eCall 1 F_need_row (aCons (eVar 0) aNil))) (sRet (eCall 2 F_unlike_place (aCons (eVar 0) (aCons (eCall 1 F_need_row (aCons (eVar 1) aNil)) aNil)))))
def F_first_unlike : List D → G → Re D := bodyF 2 m_first_unlike
def m_read_alike : Ms := (sRet (eOp isF (eCall 2 F_first_unlike (aCons (eVar 0) (aCons (eVar 1) aNil))) (eC .non)))
def F_read_alike : List D → G → Re D := bodyF 2 m_read_alike
def m_entries_of : Ms := (sRet (eArgs sumF (aCons (eLst (eComp (yVal (eVar 0)) [1, 2] (bOne (bTup 2 (bCons (bName 1) (bCons (bName 2) bNil)))) tmYes (eOp mulD (eArgs lenF (aCons (eVar 1) aNil)) (eVar 2)))) aNil)))
def F_entries_of : List D → G → Re D := bodyF 3 m_entries_of
def m_mark_there : Ms := (sSeq (sFor (yVal (eVar 0)) (bOne (bTup 2 (bCons (bName 2) (bCons (bName 3) bNil)))) [2, 3, 4] (sSeq (sSet 4 (eOp mulD (eArgs lenF (aCons (eVar 2) aNil)) (eVar 3))) (sSeq (sIf (asB (eOp ltF (eVar 1) (eVar 4))) (sRet (eOp ixF (eVar 2) (eOp (arI modI) (eVar 1) (eArgs lenF (aCons (eVar 2) aNil))))) sNil) (sAug 1 (arI subI) (eVar 4))))) (sRet (eC .non)))
def F_mark_there : List D → G → Re D := bodyF 5 m_mark_there
def m_is_ahead : Ms := (sSeq (sSet 2 (eCall 2 F_first_unlike (aCons (eVar 0) (aCons (eVar 1) aNil)))) (sSeq (sPar 3 4 (zIm (eCall 1 F_entries_of (aCons (eVar 0) aNil)) (zIm (eCall 1 F_entries_of (aCons (eVar 1) aNil)) zNil))) (sSeq (sIf (tOrM (asB (eOp isF (eVar 2) (eC .non))) (asB (eOp neF (eVar 3) (eVar 4)))) (sRet (eOp ltF (eVar 3) (eVar 4))) sNil) (sRet (eOp ltF (eCall 2 F_mark_there (aCons (eVar 0) (aCons (eVar 2) aNil))) (eCall 2 F_mark_there (aCons (eVar 1) (aCons (eVar 2) aNil))))))))
def F_is_ahead : List D → G → Re D := bodyF 5 m_is_ahead
def m_blocks_turned : Ms := (sRet (eArgs tupF (aCons (eLst (eComp (yVal (eUn revF (eVar 0))) [1, 2] (bOne (bTup 2 (bCons (bName 1) (bCons (bName 2) bNil)))) tmYes (eTup (aCons (eUn revF (eVar 1)) (aCons (eVar 2) aNil))))) aNil)))
def F_blocks_turned : List D → G → Re D := bodyF 3 m_blocks_turned
def m_common_end : Ms := (sSeq (sExpr (eCall 1 F_need_row (aCons (eVar 0) aNil))) (sSeq (sSet 2 (eCall 2 F_unlike_place (aCons (eCall 1 F_blocks_turned (aCons (eVar 0) aNil)) (aCons (eCall 1 F_blocks_turned (aCons (eCall 1 F_need_row (aCons (eVar 1) aNil)) aNil)) aNil)))) (sRet (eIf (asB (eOp isF (eVar 2) (eC .non))) (eCall 1 F_entries_of (aCons (eVar 0) aNil)) (eVar 2)))))
def F_common_end : List D → G → Re D := bodyF 3 m_common_end
def m__law_asked : Ms := (sSeq (sSet 2 (eLst (eList (aCons (eCall 2 F_first_unlike (aCons (eVar 0) (aCons (eVar 1) aNil))) (aCons (eCall 2 F_first_unlike (aCons (eVar 1) (aCons (eVar 0) aNil))) (aCons (eCall 2 F_read_alike (aCons (eVar 0) (aCons (eVar 1) aNil))) (aCons (eCall 2 F_read_alike (aCons (eVar 1) (aCons (eVar 0) aNil))) aNil))))))) (sRet (eOp addD (eVar 2) (eLst (eList (aCons (eCall 2 F_is_ahead (aCons (eVar 0) (aCons (eVar 1) aNil))) (aCons (eCall 2 F_is_ahead (aCons (eVar 1) (aCons (eVar 0) aNil))) (aCons (eCall 2 F_common_end (aCons (eVar 0) (aCons (eVar 1) aNil))) (aCons (eCall 2 F_common_end (aCons (eVar 1) (aCons (eVar 0) aNil))) aNil)))))))))
def F__law_asked : List D → G → Re D := bodyF 3 m__law_asked
def m__law_parts_late : Ms := (sSeq (sSet 1 (eOp addD (eC (.int 2)) (eCall 2 F__law_draw (aCons (eVar 0) (aCons (eC (.int 28)) aNil))))) (sSeq (sSet 2 (eIf (asB (eOp eqF (eCall 2 F__law_draw (aCons (eVar 0) (aCons (eC (.int 2)) aNil))) (eC (.int 0)))) (eOp addD (eVar 1) (eC (.int 1))) (eOp (arI subI) (eOp mulD (eC (.int 2)) (eVar 1)) (eC (.int 1))))) (sSeq (sSet 3 (eCall 2 F__law_two_periods (aCons (eVar 1) (aCons (eVar 2) aNil)))) (sSeq (sPar 4 5 (zIm (eArgs min2F (aCons (eOp addD (eVar 2) (eCall 1 F__law_times (aCons (eVar 0) aNil))) (aCons (eOp (arI powI) (eC (.int 10)) (eC (.int 30))) aNil))) (zIm (eArgs min2F (aCons (eOp addD (eVar 1) (eCall 1 F__law_times (aCons (eVar 0) aNil))) (aCons (eOp (arI powI) (eC (.int 10)) (eC (.int 30))) aNil))) zNil))) (sSeq (sPar 6 7 (zIm (eTup (aCons (eTup (aCons (eSl slF (eVar 3) oNone (oSome (eVar 1))) (aCons (eVar 4) aNil))) aNil)) (zIm (eTup (aCons (eTup (aCons (eSl slF (eVar 3) oNone (oSome (eVar 2))) (aCons (eVar 5) aNil))) aNil)) zNil))) (sSeq (sPar 8 9 (zIm (eLst (eList (aCons (eCall 1 F__law_size (aCons (eVar 6) aNil)) (aCons (eCall 1 F__law_size (aCons (eVar 7) aNil)) aNil)))) (zIm (eOp (arI subI) (eOp addD (eVar 1) (eVar 2)) (eC (.int 2))) zNil))) (sSeq (sSet 10 (eOp ltF (eCall 2 F__law_mark (aCons (eVar 6) (aCons (eVar 9) aNil))) (eCall 2 F__law_mark (aCons (eVar 7) (aCons (eVar 9) aNil))))) (sSeq (sIf (asB (eOp neF (eOp ixF (eVar 8) (eC (.int 0))) (eOp ixF (eVar 8) (eC (.int 1))))) (sSet 10 (eOp ltF (eOp ixF (eVar 8) (eC (.int 0))) (eOp ixF (eVar 8) (eC (.int 1))))) sNil) (sSeq (sSet 11 (eCall 2 F__law_end (aCons (eVar 6) (aCons (eVar 7) aNil)))) (sSeq (sSet 12 (eLst (eList (aCons (eVar 9) (aCons (eVar 9) (aCons (eC (.bl false)) (aCons (eC (.bl false)) (aCons (eVar 10) (aCons (eNot (eVar 10)) (aCons (eVar 11) (aCons (eVar 11) aNil))))))))))) (sRet (eCall 2 F__law_like (aCons (eCall 2 F__law_asked (aCons (eCall 2 F__law_rewritten (aCons (eVar 0) (aCons (eVar 6) aNil))) (aCons (eCall 2 F__law_rewritten (aCons (eVar 0) (aCons (eVar 7) aNil))) aNil))) (aCons (eVar 12) aNil))))))))))))))
def F__law_parts_late : List D → G → Re D := bodyF 13 m__law_parts_late
def m__law_part_place : Ms := (sSeq (sFor (yR1 (aCons (eArgs max2F (aCons (eArgs lenF (aCons (eVar 0) aNil)) (aCons (eArgs lenF (aCons (eVar 1) aNil)) aNil))) aNil)) (bOne (bName 2)) [2] (sIf (tOrM (asB (eOp geF (eVar 2) (eArgs lenF (aCons (eVar 0) aNil)))) (tOrM (asB (eOp geF (eVar 2) (eArgs lenF (aCons (eVar 1) aNil)))) (asB (eOp neF (eOp ixF (eVar 0) (eVar 2)) (eOp ixF (eVar 1) (eVar 2)))))) (sRet (eVar 2)) sNil)) (sRet (eC .non)))
def F__law_part_place : List D → G → Re D := bodyF 3 m__law_part_place
def m__law_due : Ms := (sSeq (sPar 2 3 (zIm (eCall 2 F__law_part_place (aCons (eVar 0) (aCons (eVar 1) aNil))) (zIm (eCall 2 F__law_part_place (aCons (eUn revF (eVar 0)) (aCons (eUn revF (eVar 1)) aNil))) zNil))) (sSeq (sSet 4 (eLst (eList (aCons (eVar 2) (aCons (eVar 2) (aCons (eOp isF (eVar 2) (eC .non)) (aCons (eOp isF (eVar 2) (eC .non)) (aCons (eOp ltT (eTup (aCons (eArgs lenF (aCons (eVar 0) aNil)) (aCons (eVar 0) aNil))) (eTup (aCons (eArgs lenF (aCons (eVar 1) aNil)) (aCons (eVar 1) aNil)))) (aCons (eOp ltT (eTup (aCons (eArgs lenF (aCons (eVar 1) aNil)) (aCons (eVar 1) aNil))) (eTup (aCons (eArgs lenF (aCons (eVar 0) aNil)) (aCons (eVar 0) aNil)))) aNil))))))))) (sRet (eOp addD (eVar 4) (eLst (eList (aCons (eIf (asB (eOp isF (eVar 3) (eC .non))) (eArgs lenF (aCons (eVar 0) aNil)) (eVar 3)) (aCons (eIf (asB (eOp isF (eVar 3) (eC .non))) (eArgs lenF (aCons (eVar 0) aNil)) (eVar 3)) aNil))))))))
def F__law_due : List D → G → Re D := bodyF 5 m__law_due
def m__law_flat : Ms := (sSeq (sSet 1 (eLst (eList aNil))) (sSeq (sFor (yVal (eVar 0)) (bOne (bTup 2 (bCons (bName 2) (bCons (bName 3) bNil)))) [2, 3] (sSet 1 (eOp addD (eVar 1) (eLst (eOp repL (eLst (eArgs lstF (aCons (eVar 2) aNil))) (eVar 3)))))) (sRet (eVar 1))))
def F__law_flat : List D → G → Re D := bodyF 4 m__law_flat
def m_law : Ms := (sSeq (sSet 1 (eCall 1 F__law_begun (aCons (eVar 0) aNil))) (sSeq (sSet 2 (eCall 3 F__law_wide_row (aCons (eVar 1) (aCons (eOp addD (eC (.int 1)) (eCall 2 F__law_draw (aCons (eVar 1) (aCons (eC (.int 4)) aNil)))) (aCons (eC (.int 5)) aNil))))) (sSeq (sSet 3 (eCall 1 F__law_size (aCons (eVar 2) aNil))) (sSeq (sSet 4 (eCall 2 F__law_rewritten (aCons (eVar 1) (aCons (eVar 2) aNil)))) (sSeq (sFor (yVal (eTup (aCons (eVar 2) (aCons (eVar 4) (aCons (eCall 2 F__law_rewritten (aCons (eVar 1) (aCons (eVar 4) aNil))) aNil))))) (bOne (bName 5)) [5] (sIf (tNotM (eTru (eCall 2 F__law_like (aCons (eCall 2 F__law_asked (aCons (eVar 5) (aCons (eVar 2) aNil))) (aCons (eLst (eList (aCons (eC .non) (aCons (eC .non) (aCons (eC (.bl true)) (aCons (eC (.bl true)) (aCons (eC (.bl false)) (aCons (eC (.bl false)) (aCons (eVar 3) (aCons (eVar 3) aNil)))))))))) aNil))))) (sRet (eC (.bl false))) sNil)) (sSeq (sSet 6 (eCall 2 F__law_spot (aCons (eVar 1) (aCons (eVar 2) aNil)))) (sSeq (sSet 7 (eCall 2 F__law_mark (aCons (eVar 2) (aCons (eVar 6) aNil)))) (sSeq (sSet 8 (eOp (arI modI) (eArgs intF (aCons (eOp addD (eOp addD (eVar 7) (eC (.int 1))) (eCall 2 F__law_draw (aCons (eVar 1) (aCons (eC (.int 3)) aNil)))) aNil)) (eC (.int 4)))) (sSeq (sSet 9 (eOp addD (eOp addD (eCall 3 F__law_piece (aCons (eVar 2) (aCons (eC (.int 0)) (aCons (eVar 6) aNil)))) (eTup (aCons (eTup (aCons (eTup (aCons (eVar 8) aNil)) (aCons (eC (.int 1)) aNil))) aNil))) (eCall 3 F__law_piece (aCons (eVar 2) (aCons (eOp addD (eVar 6) (eC (.int 1))) (aCons (eVar 3) aNil)))))) (sSeq (sSet 10 (eLst (eList (aCons (eVar 6) (aCons (eVar 6) (aCons (eC (.bl false)) (aCons (eC (.bl false)) (aCons (eOp ltF (eVar 7) (eVar 8)) (aCons (eOp ltF (eVar 8) (eVar 7)) (aCons (eOp (arI subI) (eOp (arI subI) (eVar 3) (eC (.int 1))) (eVar 6)) (aCons (eOp (arI subI) (eOp (arI subI) (eVar 3) (eC (.int 1))) (eVar 6)) aNil))))))))))) (sSeq (sIf (tNotM (eTru (eCall 2 F__law_like (aCons (eCall 2 F__law_asked (aCons (eVar 4) (aCons (eCall 2 F__law_rewritten (aCons (eVar 1) (aCons (eVar 9) aNil))) aNil))) (aCons (eVar 10) aNil))))) (sRet (eC (.bl false))) sNil) (sSeq (sSet 11 (eOp addD (eVar 2) (eTup (aCons (eTup (aCons (eTup (aCons (eCall 2 F__law_draw (aCons (eVar 1) (aCons (eC (.int 4)) aNil))) aNil)) (aCons (eOp addD (eC (.int 1)) (eCall 2 F__law_draw (aCons (eVar 1) (aCons (eC (.int 3)) aNil)))) aNil))) aNil)))) (sSeq (sIf (tNotM (eTru (eCall 2 F__law_like (aCons (eSl slF (eCall 2 F__law_asked (aCons (eVar 2) (aCons (eVar 11) aNil))) oNone (oSome (eC (.int 6)))) (aCons (eLst (eList (aCons (eVar 3) (aCons (eVar 3) (aCons (eC (.bl false)) (aCons (eC (.bl false)) (aCons (eC (.bl true)) (aCons (eC (.bl false)) aNil)))))))) aNil))))) (sRet (eC (.bl false))) sNil) (sSeq (sSet 12 (eCall 3 F__law_piece (aCons (eVar 4) (aCons (eC (.int 0)) (aCons (eVar 6) aNil))))) (sSeq (sIf (tNotM (eTru (eCall 2 F__law_like (aCons (eSl slF (eCall 2 F__law_asked (aCons (eVar 12) (aCons (eVar 2) aNil))) oNone (oSome (eC (.int 6)))) (aCons (eLst (eList (aCons (eVar 6) (aCons (eVar 6) (aCons (eC (.bl false)) (aCons (eC (.bl false)) (aCons (eC (.bl true)) (aCons (eC (.bl false)) aNil)))))))) aNil))))) (sRet (eC (.bl false))) sNil) (sSeq (sPar 5 13 (zIm (eCall 2 F__law_row (aCons (eVar 1) (aCons (eC (.int 2)) aNil))) (zIm (eCall 2 F__law_row (aCons (eVar 1) (aCons (eC (.int 2)) aNil))) zNil))) (sSeq (sIf (tNotM (eTru (eCall 2 F__law_like (aCons (eCall 2 F__law_asked (aCons (eVar 5) (aCons (eVar 13) aNil))) (aCons (eCall 2 F__law_due (aCons (eCall 1 F__law_flat (aCons (eVar 5) aNil)) (aCons (eCall 1 F__law_flat (aCons (eVar 13) aNil)) aNil))) aNil))))) (sRet (eC (.bl false))) sNil) (sRet (eAnd (eCall 2 F__law_like (aCons (eSl slF (eCall 2 F__law_asked (aCons (eTup aNil) (aCons (eVar 2) aNil))) oNone (oSome (eC (.int 6)))) (aCons (eLst (eList (aCons (eC (.int 0)) (aCons (eC (.int 0)) (aCons (eC (.bl false)) (aCons (eC (.bl false)) (aCons (eC (.bl true)) (aCons (eC (.bl false)) aNil)))))))) aNil))) (eCall 1 F__law_parts_late (aCons (eVar 1) aNil)))))))))))))))))))))
def F_law : List D → G → Re D := bodyF 14 m_law
end Wk
set_option linter.all false
set_option maxRecDepth 100000
set_option maxHeartbeats 4000000
namespace Wk
open PySem L2 Dl
/-! ### what is drawn -/
def Gk (k : Nat) (g : G) : Prop := ∃ s : Gs, g = some s ∧ s.cells.length = 64 ∧ (∀ c ∈ s.cells, 0 ≤ c ∧ c < 2 ^ 31) ∧ 0 ≤ s.spot ∧ s.spot ≤ k
theorem Gk.mono {k k' : Nat} {g : G} (h : Gk k g) (l : k ≤ k') : Gk k' g := by
  obtain ⟨s, h1, h2, h3, h4, h5⟩ := h
  exact ⟨s, h1, h2, h3, h4, by omega⟩
theorem nn_small {i : Int} (h0 : 0 ≤ i) (h : i ≤ 10 ^ 100) : i.natAbs < 2 ^ 1000 := by
  have e : i.natAbs ≤ 10 ^ 100 := by omega
  exact Nat.lt_of_le_of_lt e (by decide +kernel)
theorem mulI_nn {i j : Int} (h0 : 0 ≤ i) (h1 : i ≤ 10 ^ 100) (h2 : 0 ≤ j) (h3 : j ≤ 10 ^ 100) : mulI i j = some (i * j) := mulI_ok (nn_small h0 h1) (nn_small h2 h3)
theorem mul_bd {a b A B : Int} (h0 : 0 ≤ a) (h1 : a ≤ A) (h2 : 0 ≤ b) (h3 : b ≤ B) : 0 ≤ a * b ∧ a * b ≤ A * B :=
  ⟨Int.mul_nonneg h0 h2, Int.mul_le_mul h1 h3 h2 (Int.le_trans h0 h1)⟩
variable {g : G}
theorem F__law_mixed_ok (c n : Int) (h0 : 0 ≤ c) (h1 : c ≤ 10 ^ 20) (h2 : 0 ≤ n) (h3 : n ≤ 10 ^ 10) : ∃ r, (∀ g : G, F__law_mixed [.int c, .int n] g = .ok (.int r) g) ∧ 0 ≤ r ∧ r < 2 ^ 31 := by
  have a1 : mulI 2 n = some (2 * n) := mulI_nn (by decide) (by decide) h2 (by omega)
  have b2 := mul_bd (A := 10 ^ 20) (B := 10 ^ 11) h0 h1 (show 0 ≤ 1 + 2 * n by omega) (by omega)
  have a2 : mulI c (1 + 2 * n) = some (c * (1 + 2 * n)) := mulI_nn h0 (by omega) (by omega) (by omega)
  have a3 : mulI (c * (1 + 2 * n)) 48271 = some (c * (1 + 2 * n) * 48271) := mulI_nn b2.1 (by omega) (by decide) (by decide)
  have a4 : mulI 7919 n = some (7919 * n) := mulI_nn (by decide) (by decide) h2 (by omega)
  have b5 := mul_bd (A := 10 ^ 14) (B := 10 ^ 10) (show 0 ≤ 7919 * n by omega) (by omega) h2 h3
  have a5 : mulI (7919 * n) n = some (7919 * n * n) := mulI_nn (by omega) (by omega) h2 (by omega)
  have a6 : mulI 104729 n = some (104729 * n) := mulI_nn (by decide) (by decide) h2 (by omega)
  have m1 : modI (c * (1 + 2 * n) * 48271) 2147483647 = some (c * (1 + 2 * n) * 48271 % 2147483647) := modI_ok (by decide)
  generalize hx : c * (1 + 2 * n) * 48271 % 2147483647 = x at *
  have hx0 : 0 ≤ x ∧ x < 2147483647 := by omega
  generalize hy : 7919 * n * n = y at *
  have a7 : mulI (x + y + 104729 * n) 69621 = some ((x + y + 104729 * n) * 69621) := mulI_nn (by omega) (by omega) (by decide) (by decide)
  have m2 : modI ((x + y + 104729 * n) * 69621) 2147483629 = some ((x + y + 104729 * n) * 69621 % 2147483629) := modI_ok (by decide)
  generalize hz : (x + y + 104729 * n) * 69621 % 2147483629 = z at *
  have d1 : divI z 7 = some (z / 7) := divI_ok (by decide) (by decide +kernel)
  refine ⟨z / 7, fun g => ?_, by omega, by omega⟩
  simp [F__law_mixed, bodyF, entry, m__law_mixed, a1, a2, a3, a4, a5, a6, a7, m1, m2, d1]
@[simp] theorem hdl_0 {α : Type} (s : Gs) (F : Gs → Dl.Env → Re α) (ρ : Dl.Env) : hdlAt 0 F (.im .hdl :: ρ) (some s) = F s (.im .hdl :: ρ) := rfl
theorem F__law_draw_ok (k : Nat) (l : Int) (hg : Gk k g) (hk : k ≤ 10 ^ 9) (h1 : 1 ≤ l) (h2 : l ≤ 10 ^ 100) : ∃ r g', F__law_draw [.hdl, .int l] g = .ok (.int r) g' ∧ 0 ≤ r ∧ r < l ∧ Gk (k + 1) g' := by
  obtain ⟨s, rfl, hl, hc, hs0, hsk⟩ := hg
  have hl2 : l.natAbs < 2 ^ 1000 := nn_small (by omega) h2
  -- the mixed number
  have hn64 : modI s.spot 64 = some (s.spot % 64) := modI_ok (by decide)
  have hd64 : divI s.spot 64 = some (s.spot / 64) := divI_ok (by decide) (by decide +kernel)
  obtain ⟨cell, hcell⟩ : ∃ c, atI s.cells (s.spot % 64) = some c := by
    have hj : (s.spot % 64).toNat < s.cells.length := by omega
    refine ⟨s.cells[(s.spot % 64).toNat], ?_⟩
    have e : s.spot % 64 = (((s.spot % 64).toNat : Nat) : Int) := by omega
    unfold atI ixN
    rw [if_pos (by omega), if_pos (by omega)]
    simp [hj]
  have hcb : 0 ≤ cell ∧ cell < 2 ^ 31 := by
    unfold atI ixN at hcell
    rw [if_pos (by omega), if_pos (by omega)] at hcell
    exact hc cell (List.mem_of_getElem? (by simpa using hcell))
  have m31 : mulI 31 (s.spot / 64) = some (31 * (s.spot / 64)) := mulI_nn (by decide) (by decide) (by omega) (by omega)
  obtain ⟨r1, e1, b1, b2⟩ := F__law_mixed_ok (cell + 31 * (s.spot / 64)) s.spot (by omega) (by omega) hs0 (by omega)
  obtain ⟨r2, e2, b3, b4⟩ := F__law_mixed_ok r1 (s.spot + 7) b1 (by omega) (by omega) (by omega)
  have ml : modI r2 l = some (r2 % l) := modI_ok (by omega)
  have fin : ∀ gr : List Int, Gk (k + 1) (some ⟨s.cells, gr, s.spot + 1⟩) := fun gr => ⟨_, rfl, hl, hc, by show 0 ≤ s.spot + 1; omega, by show s.spot + 1 ≤ ((k + 1 : Nat) : Int); omega⟩
  have hr2 := Int.emod_nonneg r2 (show l ≠ 0 by omega)
  have hr3 := Int.emod_lt_of_pos r2 (show 0 < l by omega)
  by_cases hgr : s.great = []
  · refine ⟨r2 % l, some ⟨s.cells, s.great, s.spot + 1⟩, ?_, hr2, hr3, fin _⟩
    simp [F__law_draw, bodyF, entry, m__law_draw, eSpot, sSpot, tGreat, sAlias, alAt, eIxA, Gs.lot, hgr, hn64, hd64, hcell, m31, e1, e2, ml]
  · have hlen : 0 < s.great.length := List.length_pos_iff.mpr hgr
    have hem : s.great.isEmpty = false := by
      cases hq : s.great with
      | nil => exact absurd hq hgr
      | cons a b => rfl
    have hnl : modI s.spot (s.great.length : Int) = some (s.spot % (s.great.length : Int)) := modI_ok (by omega)
    have hj0 := Int.emod_nonneg s.spot (show (s.great.length : Int) ≠ 0 by omega)
    have hj1 := Int.emod_lt_of_pos s.spot (show 0 < (s.great.length : Int) by omega)
    generalize hjj : s.spot % (s.great.length : Int) = jj at *
    obtain ⟨j, rfl⟩ : ∃ j : Nat, jj = (j : Int) := ⟨jj.toNat, by omega⟩
    have hj : j < s.great.length := by omega
    have hix : ixN s.great.length (j : Int) = some j := by
      unfold ixN
      rw [if_pos (by omega), if_pos (by omega)]
      simp
    have hat : atI s.great (j : Int) = some s.great[j] := by
      unfold atI
      rw [hix]
      simp [hj]
    by_cases hpos : 0 < s.great[j]
    · have hdl : divI s.great[j] l = some (s.great[j] / l) := divI_ok (by omega) hl2
      have hml : modI s.great[j] l = some (s.great[j] % l) := modI_ok (by omega)
      refine ⟨s.great[j] % l, some ⟨s.cells, s.great.set j (s.great[j] / l), s.spot + 1⟩, ?_, Int.emod_nonneg _ (by omega), Int.emod_lt_of_pos _ (by omega), fin _⟩
      have hne : ¬ s.great.length = 0 := by omega
      simp [F__law_draw, bodyF, entry, m__law_draw, eSpot, sSpot, tGreat, sAlias, alAt, eIxA, eLenA, sPutA, ixS, Gs.lot, hem, hnl, hat, hpos, hdl, hml, hix]
    · refine ⟨r2 % l, some ⟨s.cells, s.great, s.spot + 1⟩, ?_, hr2, hr3, fin _⟩
      simp [F__law_draw, bodyF, entry, m__law_draw, eSpot, sSpot, tGreat, sAlias, alAt, eIxA, eLenA, sPutA, ixS, Gs.lot, hem, hnl, hat, hpos, hn64, hd64, hcell, m31, e1, e2, ml]
/-! ### the state begins -/
structure C64 (l : List Int) : Prop where
  len : l.length = 64
  bd : ∀ c ∈ l, 0 ≤ c ∧ c < 2 ^ 31
theorem C64.at_ {l : List Int} (h : C64 l) {j : Nat} (hj : j < 64) : ∃ v, l[j]? = some v ∧ 0 ≤ v ∧ v < 2 ^ 31 := by
  have hj' : j < l.length := by rw [h.len]; exact hj
  exact ⟨l[j], List.getElem?_eq_getElem hj', h.bd _ (List.getElem_mem hj')⟩
theorem C64.set {l : List Int} (h : C64 l) (j : Nat) {v : Int} (h0 : 0 ≤ v) (h1 : v < 2 ^ 31) : C64 (l.set j v) := by
  refine ⟨by rw [List.length_set]; exact h.len, fun c hc => ?_⟩
  rcases List.mem_or_eq_of_mem_set hc with q | q
  · exact h.bd c q
  · subst q; exact ⟨h0, h1⟩
theorem ixF_ints {l : List Int} {j : Nat} {v : Int} (h : l[j]? = some v) : ixF (.lst (l.map D.int)) (.int (j : Nat)) g = .ok (.int v) g := by
  have hk : j < l.length := (List.getElem?_eq_some_iff.mp h).1
  have e : atI (l.map D.int) (j : Int) = some (.int v) := by
    unfold atI ixN
    rw [List.length_map, if_pos (by omega), if_pos (by omega)]
    simp [h]
  show op (atI _ _) g = _
  rw [e]
  rfl
theorem ixS_nat {n j : Nat} (h : j < n) : ixS n (.int (j : Nat)) = some j := by
  show ixN n (j : Int) = some j
  unfold ixN
  rw [if_pos (by omega), if_pos (by omega)]
  simp
abbrev fold1T : Yd → Dl.Env → Option Dl.Env := bMany 2 (bCons (bName 2) (bCons (bName 3) bNil))
abbrev fold1B : Ms := sPut 1 (eOp (arI modI) (eArgs intF (aCons (eVar 2) aNil)) (eC (.int 64))) (eOp (arI modI) (eArgs intF (aCons (eOp addD (eOp mulD (eOp ixF (eBor 1) (eOp (arI modI) (eArgs intF (aCons (eVar 2) aNil)) (eC (.int 64)))) (eC (.int 48271))) (eVar 3)) aNil)) (eC (.int 2147483647)))
theorem fold1 (d0 : D) : ∀ (ns : List Int) (k : Nat) (l : List Int), C64 l → ∃ l', C64 l' ∧ loopF fold1T [2, 3] fold1B (enD k (ns.map D.int)) [.im d0, .ow (l.map D.int), .no, .no] g = .ok (.nx [.im d0, .ow (l'.map D.int), .no, .no]) g
  | [], k, l, h => ⟨l, h, rfl⟩
  | n :: ns, k, l, h => by
    obtain ⟨v, hv, v0, v1⟩ := h.at_ (Nat.mod_lt k (show 0 < 64 by decide))
    have m1 : modI (k : Int) 64 = some ((k % 64 : Nat) : Int) := by
      rw [modI_ok (by decide)]
      rfl
    have a1 : mulI v 48271 = some (v * 48271) := mulI_nn v0 (by omega) (by decide) (by decide)
    have m2 : modI (v * 48271 + n) 2147483647 = some ((v * 48271 + n) % 2147483647) := modI_ok (by decide)
    have b0 := Int.emod_nonneg (v * 48271 + n) (show (2147483647 : Int) ≠ 0 by decide)
    have b1 := Int.emod_lt_of_pos (v * 48271 + n) (show (0 : Int) < 2147483647 by decide)
    generalize hw : (v * 48271 + n) % 2147483647 = w at *
    have hj := Nat.mod_lt k (show 0 < 64 by decide)
    generalize hjj : k % 64 = j at *
    obtain ⟨l', h', e⟩ := fold1 d0 ns (k + 1) (l.set j w) (h.set j b0 (by omega))
    refine ⟨l', h', ?_⟩
    have hx := ixF_ints (g := g) hv
    have hs : ixS 64 (.int (j : Nat)) = some j := ixS_nat hj
    rw [List.map_cons, show enD k (D.int n :: ns.map D.int) = .many [.int k, .int n] :: enD (k + 1) (ns.map D.int) from rfl, loop_step (ρ1 := [.im d0, .ow (l.map D.int), .im (.int k), .im (.int n)]) (by simp)]
    rw [List.map_set] at e
    simp [m1, hx, a1, m2, hs, h.len, e]
abbrev fold2T : Yd → Dl.Env → Option Dl.Env := bOne (bName 2)
abbrev fold2B : Ms := sPut 1 (eVar 2) (eOp (arI modI) (eArgs intF (aCons (eOp addD (eOp ixF (eBor 1) (eVar 2)) (eOp mulD (eOp ixF (eBor 1) (eOp (arI subI) (eVar 2) (eC (.int 1)))) (eC (.int 16807)))) aNil)) (eC (.int 2147483647)))
theorem fold2 (d0 : D) : ∀ (m i : Nat) (l : List Int), 1 ≤ i → i + m = 64 → C64 l → ∃ l', C64 l' ∧ loopF fold2T [2] fold2B (rgD i 1 m) [.im d0, .ow (l.map D.int), .no, .no] g = .ok (.nx [.im d0, .ow (l'.map D.int), .no, .no]) g
  | 0, i, l, _, _, h => ⟨l, h, rfl⟩
  | m + 1, i, l, h1, hm, h => by
    obtain ⟨v, hv, v0, v1⟩ := h.at_ (show i < 64 by omega)
    obtain ⟨u, hu, u0, u1⟩ := h.at_ (show i - 1 < 64 by omega)
    have e1 : (i : Int) - 1 = ((i - 1 : Nat) : Int) := by omega
    have a1 : mulI u 16807 = some (u * 16807) := mulI_nn u0 (by omega) (by decide) (by decide)
    have m2 : modI (v + u * 16807) 2147483647 = some ((v + u * 16807) % 2147483647) := modI_ok (by decide)
    have b0 := Int.emod_nonneg (v + u * 16807) (show (2147483647 : Int) ≠ 0 by decide)
    have b1 := Int.emod_lt_of_pos (v + u * 16807) (show (0 : Int) < 2147483647 by decide)
    generalize hw : (v + u * 16807) % 2147483647 = w at *
    obtain ⟨l', h', e⟩ := fold2 d0 m (i + 1) (l.set i w) (by omega) (by omega) (h.set i b0 (by omega))
    refine ⟨l', h', ?_⟩
    have hx := ixF_ints (g := g) hv
    have hy := ixF_ints (g := g) hu
    have hs : ixS 64 (.int (i : Nat)) = some i := ixS_nat (by omega)
    rw [show rgD (i : Int) 1 (m + 1) = .one (.int i) :: rgD ((i : Int) + 1) 1 m from rfl, loop_step (ρ1 := [.im d0, .ow (l.map D.int), .im (.int i), .no]) (by simp)]
    rw [List.map_set, Int.natCast_add, show ((1 : Nat) : Int) = 1 from rfl] at e
    simp [hx, e1, hy, a1, m2, hs, h.len, e]
theorem F__law_folded_ok (ns : List Int) : ∃ l, C64 l ∧ F__law_folded [.scr ns] g = .ok (.lst (l.map D.int)) g := by
  have c0 : compF (bOne (bName 2)) tmYes (eOp addD (eC (.int 17)) (eVar 2)) [.im (.scr ns), .no, .no, .no] (rgD 0 1 64) g = .ok (((List.range 64).map fun i => (17 : Int) + (0 + (i : Nat))).map D.int) g := by
    rw [rg_comp (fun i => .int (17 + i)) 64 0 fun i hi => ⟨[.im (.scr ns), .no, .im (.int (0 + (i : Int))), .no], rfl, rfl, by simp⟩, List.map_map]
    rfl
  have h0 : C64 ((List.range 64).map fun i => (17 : Int) + (0 + (i : Nat))) := by
    refine ⟨by simp, fun c hc => ?_⟩
    rw [List.mem_map] at hc
    obtain ⟨i, hi, rfl⟩ := hc
    have := List.mem_range.mp hi
    omega
  obtain ⟨l1, h1, e1⟩ := fold1 (g := g) (.scr ns) ns 0 _ h0
  obtain ⟨l2, h2, e2⟩ := fold2 (g := g) (.scr ns) 63 1 l1 (by omega) (by omega) h1
  refine ⟨l2, h2, ?_⟩
  rw [show ((1 : Nat) : Int) = 1 from rfl] at e2
  have hr : (rgD 0 1 64).length ≤ 1000000 := by rw [rgD_length]; decide
  generalize (List.range 64).map (fun i => (17 : Int) + (0 + (i : Nat))) = l0 at *
  simp [F__law_folded, bodyF, entry, m__law_folded, hr, c0, e1, e2]
theorem F__law_begun_ok (ns : List Int) (hl : ns.length ≤ 63) : ∃ g', F__law_begun [.scr ns] none = .ok .hdl g' ∧ Gk 0 g' := by
  obtain ⟨l, hc, e⟩ := F__law_folded_ok (g := none) ns
  have pw : powI 10 18 = some 1000000000000000000 := by decide +kernel
  have c0 : ∀ s1 : Sl, compF (bOne (bName 2)) tmYes (eIf (asB (eOp geF (eVar 2) (eOp (arI powI) (eC (.int 10)) (eC (.int 18))))) (eVar 2) (eC (.int 0))) [.im (.scr ns), s1, .no] (ns.map (Yd.one ∘ D.int)) none = .ok (ns.map fun c => D.int (if (1000000000000000000 : Int) ≤ c then c else 0)) none := by
    intro s1
    refine ints_comp _ fun x hx => ⟨[.im (.scr ns), s1, .im (.int x)], rfl, rfl, ?_⟩
    by_cases h : (1000000000000000000 : Int) ≤ x
    · simp [pw, h]
    · simp [pw, h]
  have i1 : intsD (l.map D.int) = some l := ints_of l
  have i2 : intsD (ns.map fun c => D.int (if (1000000000000000000 : Int) ≤ c then c else 0)) = some (ns.map fun c => if (1000000000000000000 : Int) ≤ c then c else 0) := by
    have := ints_of (ns.map fun c => if (1000000000000000000 : Int) ≤ c then c else 0)
    rw [List.map_map] at this
    exact this
  refine ⟨some ⟨l, ns.map fun c => if (1000000000000000000 : Int) ≤ c then c else 0, 0⟩, ?_, ⟨_, rfl, hc.len, hc.bd, Int.le_refl 0, Int.le_refl 0⟩⟩
  have hz : ns.length ≤ 1000000 := by omega
  simp [F__law_begun, bodyF, entry, m__law_begun, sBegin, sBeginA, sBeginB, e, i1, hz, c0, i2]
end Wk
set_option linter.all false
namespace Rw
/-! ### words in blocks -/
def rep (t : Nat) (l : List Int) : List Int := (List.replicate t l).flatten
theorem rep_zero (l : List Int) : rep 0 l = [] := rfl
theorem rep_succ (t : Nat) (l : List Int) : rep (t + 1) l = l ++ rep t l := by unfold rep; rw [List.replicate_succ, List.flatten_cons]
theorem rep_one (l : List Int) : rep 1 l = l := by rw [rep_succ, rep_zero, List.append_nil]
theorem rep_add (a b : Nat) (l : List Int) : rep (a + b) l = rep a l ++ rep b l := by
  unfold rep
  rw [← List.flatten_append, List.replicate_append_replicate]
theorem rep_length (t : Nat) (l : List Int) : (rep t l).length = t * l.length := by
  induction t with
  | zero => simp [rep_zero]
  | succ t ih => rw [rep_succ, List.length_append, ih, Nat.succ_mul]; omega
theorem rep_count (t : Nat) (l : List Int) (m : Int) : (rep t l).count m = t * l.count m := by
  induction t with
  | zero => simp [rep_zero]
  | succ t ih => rw [rep_succ, List.count_append, ih, Nat.succ_mul]; omega
theorem rep_reverse (t : Nat) (l : List Int) : (rep t l).reverse = rep t l.reverse := by
  induction t with
  | zero => rfl
  | succ t ih =>
    rw [rep_add t 1 l, rep_one, List.reverse_append, ih, ← rep_succ]
theorem rep_take {t e : Nat} {l : List Int} (hl : 0 < l.length) (h : e ≤ t * l.length) : (rep t l).take e = rep (e / l.length) l ++ l.take (e % l.length) := by
  have hq : e / l.length ≤ t := by
    have := Nat.div_le_div_right (c := l.length) h
    rwa [Nat.mul_div_cancel _ hl] at this
  have e1 : e = e / l.length * l.length + e % l.length := by
    have := Nat.div_add_mod e l.length
    rw [Nat.mul_comm]; exact this.symm
  obtain ⟨d, hd⟩ : ∃ d, t = e / l.length + d := ⟨t - e / l.length, by omega⟩
  have hr : e % l.length < l.length := Nat.mod_lt _ hl
  conv => lhs; rw [hd]
  rw [rep_add, List.take_append]
  have hle : (rep (e / l.length) l).length = e / l.length * l.length := rep_length _ _
  rw [List.take_of_length_le (by rw [hle]; omega), hle]
  have e2 : e - e / l.length * l.length = e % l.length := by omega
  rw [e2]
  congr 1
  cases d with
  | zero =>
    rw [rep_zero]
    have : e % l.length = 0 := by
      have h' : e ≤ e / l.length * l.length := by rw [hd, Nat.add_zero] at h; exact h
      omega
    rw [this]; simp
  | succ d => rw [rep_succ, List.take_append_of_le_length (by omega)]
/-- what stands from b on, ahead of e -/
def cut (w : List Int) (b e : Nat) : List Int := (w.take e).drop b
theorem divm {n q r : Nat} (h : r < n) : (q * n + r) / n = q := by
  rw [Nat.mul_comm, Nat.mul_add_div (by omega), Nat.div_eq_of_lt h, Nat.add_zero]
theorem rep_drop (q d r : Nat) (l X : List Int) : (rep (q + d) l ++ X).drop (q * l.length + r) = (rep d l ++ X).drop r := by
  rw [rep_add, List.append_assoc, ← List.drop_drop]
  congr 1
  have h : (rep q l).length = q * l.length := rep_length _ _
  rw [← h, List.drop_left]
theorem rep_cut {t b e : Nat} {l : List Int} (hl : 0 < l.length) (h : e ≤ t * l.length) (hb : b < e) : cut (rep t l) b e =
    if b / l.length = (e - 1) / l.length then (l.take (e - b / l.length * l.length)).drop (b % l.length)
    else (if 0 < b % l.length then l.drop (b % l.length) else []) ++ rep (e / l.length - (b / l.length + if 0 < b % l.length then 1 else 0)) l ++ l.take (e % l.length) := by
  have hcut : cut (rep t l) b e = (rep (e / l.length) l ++ l.take (e % l.length)).drop b := by
    unfold cut
    rw [rep_take hl h]
  have eb : b = b / l.length * l.length + b % l.length := by
    have := Nat.div_add_mod b l.length
    rw [Nat.mul_comm]; exact this.symm
  have ee : e = e / l.length * l.length + e % l.length := by
    have := Nat.div_add_mod e l.length
    rw [Nat.mul_comm]; exact this.symm
  have rb : b % l.length < l.length := Nat.mod_lt _ hl
  have re : e % l.length < l.length := Nat.mod_lt _ hl
  have hbe : b / l.length ≤ e / l.length := Nat.div_le_div_right (by omega)
  have e1 : (e - 1) / l.length = if e % l.length = 0 then e / l.length - 1 else e / l.length := by
    by_cases z : e % l.length = 0
    · rw [if_pos z]
      by_cases y : e / l.length = 0
      · rw [y] at ee; omega
      · obtain ⟨q, hq⟩ : ∃ q, e / l.length = q + 1 := ⟨e / l.length - 1, (Nat.succ_pred_eq_of_ne_zero y).symm⟩
        rw [hq, Nat.succ_mul] at ee
        have : e - 1 = q * l.length + (l.length - 1) := by omega
        rw [this, divm (by omega), hq]
        rfl
    · rw [if_neg z]
      have : e - 1 = e / l.length * l.length + (e % l.length - 1) := by omega
      rw [this, divm (by omega)]
  rw [e1]
  generalize e / l.length = qe at *
  generalize e % l.length = re' at *
  generalize b / l.length = qb at *
  generalize b % l.length = rb' at *
  subst ee
  subst eb
  obtain ⟨d, rfl⟩ : ∃ d, qe = qb + d := ⟨qe - qb, by omega⟩
  rw [hcut, rep_drop]
  by_cases z : re' = 0
  · subst z
    rw [if_pos rfl, List.take_zero, List.append_nil, List.append_nil]
    by_cases y : d = 1
    · subst y
      rw [if_pos (by omega), rep_one]
      have : (qb + 1) * l.length + 0 - qb * l.length = l.length := by rw [Nat.succ_mul]; omega
      rw [this, List.take_length]
    · have hd : 1 ≤ d := by
        by_cases x : d = 0
        · subst x; simp only [Nat.add_zero] at hb; omega
        · omega
      rw [if_neg (by omega)]
      by_cases x : 0 < rb'
      · rw [if_pos x, if_pos x]
        obtain ⟨d2, rfl⟩ : ∃ d2, d = d2 + 1 := ⟨d - 1, by omega⟩
        rw [rep_succ, List.drop_append_of_le_length (by omega)]
        congr 2
        omega
      · rw [if_neg x, if_neg x]
        have : rb' = 0 := by omega
        rw [this, List.drop_zero, List.nil_append]
        congr 1
        omega
  · rw [if_neg z]
    by_cases y : d = 0
    · subst y
      simp only [Nat.add_zero]
      rw [if_pos trivial, rep_zero, List.nil_append]
      have : qb * l.length + re' - qb * l.length = re' := by omega
      rw [this]
    · rw [if_neg (by omega)]
      obtain ⟨d2, rfl⟩ : ∃ d2, d = d2 + 1 := ⟨d - 1, by omega⟩
      by_cases x : 0 < rb'
      · rw [if_pos x, if_pos x, rep_succ, List.append_assoc, List.drop_append_of_le_length (by omega)]
        rw [List.append_assoc]
        congr 3
        omega
      · rw [if_neg x, if_neg x]
        have : rb' = 0 := by omega
        rw [this, List.drop_zero, List.nil_append]
        congr 2
        omega
theorem cut_app (w1 w2 : List Int) (b e : Nat) : cut (w1 ++ w2) b e = cut w1 b e ++ cut w2 (b - w1.length) (e - w1.length) := by
  unfold cut
  rw [List.take_append, List.drop_append, List.length_take]
  congr 1
  by_cases h : w1.length ≤ e
  · rw [Nat.min_eq_right h]
  · have : e - w1.length = 0 := by omega
    rw [this]; simp
theorem cut_none {w : List Int} {b e : Nat} (h : e ≤ b) : cut w b e = [] := by
  unfold cut
  rw [List.drop_eq_nil_iff, List.length_take]
  omega
theorem cut_min {w : List Int} {b e : Nat} : cut w b (min e w.length) = cut w b e := by
  unfold cut
  by_cases h : e ≤ w.length
  · rw [Nat.min_eq_left h]
  · rw [Nat.min_eq_right (by omega), List.take_length, List.take_of_length_le (by omega)]
theorem cut_zero (w : List Int) (e : Nat) : cut w 0 e = w.take e := rfl
abbrev Row := List (List Int × Int)
def bw (b : List Int × Int) : List Int := rep b.2.toNat b.1
def wd (r : Row) : List Int := (r.map bw).flatten
theorem wd_nil : wd [] = [] := rfl
theorem wd_cons (b : List Int × Int) (r : Row) : wd (b :: r) = bw b ++ wd r := rfl
theorem wd_append (r q : Row) : wd (r ++ q) = wd r ++ wd q := by unfold wd; rw [List.map_append, List.flatten_append]
theorem wd_one (b : List Int × Int) : wd [b] = bw b := by rw [wd_cons, wd_nil, List.append_nil]
theorem wd_reverse (r : Row) : (wd r).reverse = wd (r.reverse.map fun b => (b.1.reverse, b.2)) := by
  induction r with
  | nil => rfl
  | cons b r ih =>
    rw [wd_cons, List.reverse_append, ih, List.reverse_cons, List.map_append, wd_append]
    congr 1
    show (bw b).reverse = wd [(b.1.reverse, b.2)]
    rw [wd_one]
    exact rep_reverse _ _
/-! ### the n-th entry with a mark -/
structure Occ (w : List Int) (m : Int) (n p : Nat) : Prop where
  lt : p < w.length
  at_ : w[p]? = some m
  ct : (w.take p).count m = n
theorem count_take_le {w : List Int} {m : Int} {p q : Nat} (h : p ≤ q) : (w.take p).count m ≤ (w.take q).count m := by
  have e : w.take p = (w.take q).take p := by rw [List.take_take, Nat.min_eq_left h]
  rw [e]
  exact (List.take_sublist _ _).count_le _
theorem count_take_succ {w : List Int} {m : Int} {p : Nat} (h : w[p]? = some m) : (w.take (p + 1)).count m = (w.take p).count m + 1 := by
  rw [List.take_add_one, h, List.count_append]
  simp
theorem Occ.uniq {w : List Int} {m : Int} {n p q : Nat} (a : Occ w m n p) (b : Occ w m n q) : p = q := by
  have key : ∀ {p q : Nat}, Occ w m n p → Occ w m n q → ¬ p < q := fun {p q} a b h => by
    have h1 := count_take_le (w := w) (m := m) (show p + 1 ≤ q from h)
    rw [count_take_succ a.at_, a.ct, b.ct] at h1
    omega
  have h1 := key a b
  have h2 := key b a
  omega
theorem Occ.count {w : List Int} {m : Int} {n p : Nat} (a : Occ w m n p) : n < w.count m := by
  have h := count_take_le (w := w) (m := m) (show p + 1 ≤ w.length from a.lt)
  rw [count_take_succ a.at_, a.ct, List.take_length] at h
  omega
theorem Occ.app {w v : List Int} {m : Int} {n p : Nat} (a : Occ w m n p) : Occ (w ++ v) m n p := by
  have h := a.lt
  refine ⟨by rw [List.length_append]; omega, by rw [List.getElem?_append_left h]; exact a.at_, ?_⟩
  rw [List.take_append_of_le_length (by omega)]
  exact a.ct
theorem Occ.behind {w v : List Int} {m : Int} {n p : Nat} (a : Occ v m n p) : Occ (w ++ v) m (w.count m + n) (w.length + p) := by
  have h := a.lt
  refine ⟨by rw [List.length_append]; omega, by rw [List.getElem?_append_right (by omega), Nat.add_sub_cancel_left]; exact a.at_, ?_⟩
  rw [List.take_append, List.take_of_length_le (by omega), Nat.add_sub_cancel_left, List.count_append, a.ct]
/-- from the end -/
theorem Occ.reverse {w : List Int} {m : Int} {n p : Nat} (a : Occ w.reverse m n p) : Occ w m (w.count m - 1 - n) (w.length - 1 - p) := by
  have h := a.lt
  have hc := a.count
  rw [List.length_reverse] at h
  rw [List.count_reverse] at hc
  have e1 := a.at_
  rw [List.getElem?_reverse h] at e1
  refine ⟨by omega, e1, ?_⟩
  have h2 : (w.reverse.take p).count m = n := a.ct
  rw [List.take_reverse, List.count_reverse] at h2
  have h3 : (w.take (w.length - p)).count m + (w.drop (w.length - p)).count m = w.count m := by
    rw [← List.count_append, List.take_append_drop]
  have e4 : w.length - p = (w.length - 1 - p) + 1 := by omega
  have h5 := count_take_succ e1
  rw [← e4] at h5
  omega
/-- the places of a mark, the first one numbered k -/
def posL (k : Nat) (m : Int) : List Int → List Nat
  | [] => []
  | x :: r => if x = m then k :: posL (k + 1) m r else posL (k + 1) m r
theorem posL_length (m : Int) : ∀ (l : List Int) (k : Nat), (posL k m l).length = l.count m
  | [], _ => rfl
  | x :: r, k => by
    unfold posL
    by_cases h : x = m
    · subst h; rw [if_pos rfl, List.length_cons, posL_length x r, List.count_cons_self]
    · rw [if_neg h, posL_length m r, List.count_cons_of_ne h]
theorem posL_at (m : Int) : ∀ (l : List Int) (k n : Nat) (s : Nat), (posL k m l)[n]? = some s → k ≤ s ∧ Occ l m n (s - k)
  | [], _, _, _, h => by simp [posL] at h
  | x :: r, k, n, s, h => by
    unfold posL at h
    by_cases e : x = m
    · subst e
      rw [if_pos rfl] at h
      cases n with
      | zero =>
        have : k = s := by simpa using h
        subst this
        exact ⟨Nat.le_refl _, by rw [Nat.sub_self]; exact ⟨by simp, rfl, rfl⟩⟩
      | succ n =>
        obtain ⟨h1, h2⟩ := posL_at x r (k + 1) n s (by simpa using h)
        refine ⟨by omega, ?_⟩
        have h3 := h2.behind (w := [x])
        have e1 : ([x] : List Int).count x + n = n + 1 := by simp; omega
        have e2 : ([x] : List Int).length + (s - (k + 1)) = s - k := by simp; omega
        rw [e1, e2] at h3
        exact h3
    · rw [if_neg e] at h
      obtain ⟨h1, h2⟩ := posL_at m r (k + 1) n s h
      refine ⟨by omega, ?_⟩
      have h3 := h2.behind (w := [x])
      have e1 : ([x] : List Int).count m + n = n := by simp [List.count_cons, e]
      have e2 : ([x] : List Int).length + (s - (k + 1)) = s - k := by simp; omega
      rw [e1, e2] at h3
      exact h3
/-- the n-th one in a block -/
theorem Occ.block {l : List Int} {m : Int} {t n s : Nat} (h : n < l.count m * t) (a : Occ l m (n % l.count m) s) : Occ (rep t l) m n (n / l.count m * l.length + s) := by
  have hc : 0 < l.count m := by
    by_cases z : l.count m = 0
    · rw [z] at h; omega
    · omega
  have hq : n / l.count m < t := (Nat.div_lt_iff_lt_mul hc).mpr (by rw [Nat.mul_comm]; exact h)
  obtain ⟨d, hd⟩ : ∃ d, t = n / l.count m + (d + 1) := ⟨t - n / l.count m - 1, by omega⟩
  have h2 := (a.app (v := rep d l)).behind (w := rep (n / l.count m) l)
  rw [rep_length, rep_count] at h2
  have e : n / l.count m * l.count m + n % l.count m = n := by
    have := Nat.div_add_mod n (l.count m)
    rw [Nat.mul_comm]; exact this
  rw [e] at h2
  conv => arg 1; rw [hd]
  rw [rep_add, rep_succ]
  exact h2
end Rw
set_option linter.all false
set_option maxRecDepth 100000
set_option maxHeartbeats 1000000
namespace Wk
open PySem L2 Dl Rw
/-! ### rows as values -/
def marksD (l : List Int) : D := .tup (l.map D.int)
def blkD (b : List Int × Int) : D := .tup [marksD b.1, .int b.2]
def rowD (r : Row) : D := .tup (r.map blkD)
structure Bk (b : List Int × Int) : Prop where
  one : 1 ≤ b.1.length
  few : b.1.length ≤ 60
  mks : ∀ m ∈ b.1, 0 ≤ m ∧ m ≤ 3
  pos : 1 ≤ b.2
  top : b.2 ≤ 10 ^ 30
def Bks (r : Row) : Prop := ∀ b ∈ r, Bk b
structure Rk (r : Row) : Prop where
  few : r.length ≤ 60
  bk : Bks r
variable {g : G}
@[simp] theorem F_is_whole_int (i : Int) : F_is_whole [.int i] g = .ok (.bl true) g := by
  simp [F_is_whole, bodyF, entry, m_is_whole]
@[simp] theorem F_is_within_int (i lo hi : Int) : F_is_within [.int i, .int lo, .int hi] g = .ok (.bl (decide (lo ≤ i) && decide (i ≤ hi))) g := by
  simp [F_is_within, bodyF, entry, m_is_within]
  by_cases h : lo ≤ i <;> simp [h]
theorem wd_length (r : Row) : ((wd r).length : Int) = (r.map fun b => (b.1.length : Int) * (b.2.toNat : Int)).sum := by
  induction r with
  | nil => rfl
  | cons b r ih =>
    rw [wd_cons, List.length_append, List.map_cons, List.sum_cons, ← ih]
    have : (bw b).length = b.2.toNat * b.1.length := rep_length _ _
    rw [this]
    push_cast
    rw [Int.mul_comm]
theorem wd_count (r : Row) (m : Int) : ((wd r).count m : Int) = (r.map fun b => (b.1.count m : Int) * (b.2.toNat : Int)).sum := by
  induction r with
  | nil => rfl
  | cons b r ih =>
    rw [wd_cons, List.count_append, List.map_cons, List.sum_cons, ← ih]
    have : (bw b).count m = b.2.toNat * b.1.count m := rep_count _ _ _
    rw [this]
    push_cast
    rw [Int.mul_comm]
structure Sm (b : List Int × Int) : Prop where
  few : b.1.length ≤ 1000
  pos : 0 ≤ b.2
  top : b.2 ≤ 10 ^ 40
theorem Bk.sm {b : List Int × Int} (h : Bk b) : Sm b := ⟨by have := h.few; omega, by have := h.pos; omega, by have := h.top; omega⟩
theorem small_nat {n : Nat} (h : n ≤ 1000) : (n : Int).natAbs < 2 ^ 1000 := by
  have e : (n : Int).natAbs = n := rfl
  rw [e]
  exact Nat.lt_of_le_of_lt h (by decide +kernel)
theorem small_top {i : Int} (h0 : 0 ≤ i) (h : i ≤ 10 ^ 40) : i.natAbs < 2 ^ 1000 := by
  have e : i.natAbs ≤ 10 ^ 40 := by omega
  exact Nat.lt_of_le_of_lt e (by decide +kernel)
theorem toNat_of {i : Int} (h : 0 ≤ i) : (i.toNat : Int) = i := Int.toNat_of_nonneg h
theorem row_comp {r : Row} {ρ : Dl.Env} {b : Yd → Dl.Env → Option Dl.Env} {tm : Me Bool} {el : Me D} (f : (List Int × Int) → Int) (hl : r.length ≤ 1000) (h : ∀ x ∈ r, ∃ ρ1, b (.one (blkD x)) ρ = some ρ1 ∧ tm ρ1 g = .ok true g ∧ el ρ1 g = .ok (.int (f x)) g) :
    (if r.length ≤ lim then compF b tm el ρ (r.map (Yd.one ∘ blkD)) g else .bad) = .ok ((r.map f).map D.int) g := by
  rw [if_pos (by show r.length ≤ 1000000; omega)]
  have q := comp_map (b := b) (tm := tm) (el := el) (ρ := ρ) (g := g) (f := fun y => match y with
    | .one (.tup [.tup l, .int t]) => .int (f (l.map (fun d => match d with | .int i => i | _ => 0), t))
    | _ => .non) (r.map (Yd.one ∘ blkD)) (fun y hy => by
      rw [List.mem_map] at hy
      obtain ⟨x, hx, rfl⟩ := hy
      obtain ⟨ρ1, h1, h2, h3⟩ := h x hx
      refine ⟨ρ1, h1, h2, ?_⟩
      rw [h3]
      have e : (x.1.map D.int).map (fun d => match d with | .int i => i | _ => 0) = x.1 := by
        rw [List.map_map]
        exact List.map_id' x.1
      show _ = Re.ok (D.int (f ((x.1.map D.int).map (fun d => match d with | .int i => i | _ => 0), x.2))) g
      rw [e])
  rw [q, List.map_map, List.map_map]
  congr 1
  apply List.map_congr_left
  intro x hx
  have e : (x.1.map D.int).map (fun d => match d with | .int i => i | _ => 0) = x.1 := by
    rw [List.map_map]
    exact List.map_id' x.1
  show D.int (f ((x.1.map D.int).map (fun d => match d with | .int i => i | _ => 0), x.2)) = D.int (f x)
  rw [e]
theorem F_entries_of_row (r : Row) (h : ∀ b ∈ r, Sm b) (hl : r.length ≤ 1000) : F_entries_of [rowD r] g = .ok (.int (wd r).length) g := by
  simp [F_entries_of, bodyF, entry, m_entries_of, rowD]
  rw [row_comp (fun b => (b.1.length : Int) * b.2) hl fun x hx => ⟨_, by simp [blkD]; rfl, rfl, by simp [marksD, mulI_ok (small_nat (h x hx).few) (small_top (h x hx).pos (h x hx).top)]⟩]
  simp only [mapRe_ok, bind_ok, sum_ints, bindS_ok, fin_rt]
  rw [wd_length]
  congr 3
  apply List.map_congr_left
  intro x hx
  rw [toNat_of (h x hx).pos]
theorem F__law_size_row (r : Row) (h : ∀ b ∈ r, Sm b) (hl : r.length ≤ 1000) : F__law_size [rowD r] g = .ok (.int (wd r).length) g := F_entries_of_row r h hl
theorem marks_ints (l : List Int) (m : Int) : ((l.map D.int).countP fun z => eqD z (.int m)) = l.count m := by
  induction l with
  | nil => rfl
  | cons x r ih =>
    rw [List.map_cons, List.countP_cons, ih, List.count_cons]
    rfl
theorem dn_ints (l : List Int) (n : Nat) : (l.map D.int).all (dn n) = true := by
  rw [List.all_map]
  exact List.all_eq_true.mpr fun x _ => by cases n <;> rfl
theorem count_marks (l : List Int) (m : Int) : countF (marksD l) [.int m] g = .ok (.int (l.count m)) g := by
  show (if (dn deep (.tup (l.map D.int)) && dn deep (.int m)) = true then Re.ok (D.int ((l.map D.int).countP fun z => eqD z (.int m))) g else .bad) = _
  rw [if_pos, marks_ints]
  rw [Bool.and_eq_true]
  exact ⟨dn_ints l 39, rfl⟩
theorem marks_comp {l : List Int} {ρ : Dl.Env} {b : Yd → Dl.Env → Option Dl.Env} {tm : Me Bool} {el : Me D} (f : Int → D) (h : ∀ x ∈ l, ∃ ρ1, b (.one (.int x)) ρ = some ρ1 ∧ tm ρ1 g = .ok true g ∧ el ρ1 g = .ok (f x) g) :
    compF b tm el ρ (l.map (Yd.one ∘ D.int)) g = .ok (l.map f) g := by
  have q := comp_map (b := b) (tm := tm) (el := el) (ρ := ρ) (g := g) (f := fun y => match y with
    | .one (.int t) => f t
    | _ => .non) (l.map (Yd.one ∘ D.int)) (fun y hy => by
      rw [List.mem_map] at hy
      obtain ⟨x, hx, rfl⟩ := hy
      exact h x hx)
  rw [q, List.map_map]
  rfl
@[simp] theorem F_is_tuple_of_tup (l : List D) (n : Int) : F_is_tuple_of [.tup l, .int n] g = .ok (.bl (decide ((l.length : Int) = n))) g := by
  simp [F_is_tuple_of, bodyF, entry, m_is_tuple_of]
@[simp] theorem at_20 (x y : D) : ixF (.tup [x, y]) (.int 0) g = .ok x g := by simp [ixF, atI, ixN]
@[simp] theorem at_21 (x y : D) : ixF (.tup [x, y]) (.int 1) g = .ok y g := by simp [ixF, atI, ixN]
theorem F_is_block_blk (b : List Int × Int) (h : Bk b) : F_is_block [blkD b] g = .ok (.bl true) g := by
  have h1 := h.one
  have h2 := h.few
  have e : (if (b.1.map D.int).length ≤ lim then compF (bOne (bName 1)) tmYes (eCall 3 F_is_within (aCons (eVar 1) (aCons (eC (.int 0)) (aCons (eC (.int 3)) aNil)))) [.im (blkD b), .no] (b.1.map (Yd.one ∘ D.int)) g else .bad) = .ok ((b.1.map fun _ => true).map D.bl) g := by
    rw [if_pos (by rw [List.length_map]; show b.1.length ≤ 1000000; omega), marks_comp (fun _ => .bl true) fun x hx => ⟨[.im (blkD b), .im (.int x)], rfl, rfl, by
      have q := h.mks x hx
      simp [q.1, q.2]⟩]
    rw [List.map_map]
    rfl
  have hp : (1 : Int) ≤ b.1.length := by omega
  have hq : (b.1.length : Int) ≤ 60 := by omega
  have ht : b.2 ≤ 1000000000000000000000000000000 := Int.le_trans h.top (by decide)
  simp [F_is_block, bodyF, entry, m_is_block, blkD, marksD, hp, hq, h.pos]
  simp [blkD, marksD] at e
  rw [e]
  have e2 : allF [.lst (b.1.map (D.bl ∘ fun _ => true))] g = .ok (.bl true) g := by
    rw [← List.map_map, all_bls]
    simp
  simp [ht, e2]
theorem need_row_loop (ρ0 : D) : ∀ (r : Row) (k : Nat), Bks r → loopF (bMany 2 (bCons (bName 1) (bCons (bName 2) bNil))) [1, 2] (sIf (tNotM (eTru (eCall 1 F_is_block (aCons (eVar 2) aNil)))) sBad sNil) (enD k (r.map blkD)) [.im ρ0, .no, .no] g = .ok (.nx [.im ρ0, .no, .no]) g
  | [], _, _ => rfl
  | b :: r, k, h => by
    have hb := h b List.mem_cons_self
    have ih := need_row_loop ρ0 r (k + 1) fun x hx => h x (List.mem_cons_of_mem _ hx)
    rw [show enD k ((b :: r).map blkD) = .many [.int k, blkD b] :: enD (k + 1) (r.map blkD) from rfl, loop_step (ρ1 := [.im ρ0, .im (.int k), .im (blkD b)]) (by simp)]
    simp [F_is_block_blk b hb, ih]
theorem F_need_row_row (r : Row) (h : Rk r) : F_need_row [rowD r] g = .ok (rowD r) g := by
  have h1 := h.few
  have h2 : ¬ (60 : Int) < (r.length : Int) := by omega
  have q := need_row_loop (g := g) (rowD r) r 0 h.bk
  simp [rowD] at q
  simp [F_need_row, bodyF, entry, m_need_row, rowD, h2, q]
theorem cutA_nat {α : Type} (l : List α) (a b : Nat) : cutA l (some (a : Int)) (some (b : Int)) = (l.take b).drop a := by
  unfold cutA
  rw [HT.sIx_nat, HT.sIx_nat, List.drop_take]
  by_cases h : a ≤ l.length
  · rw [Nat.min_eq_left h]
    by_cases h2 : b ≤ l.length
    · rw [Nat.min_eq_left h2]
    · rw [Nat.min_eq_right (by omega), List.take_of_length_le (by rw [List.length_drop]; omega), List.take_of_length_le (by rw [List.length_drop]; omega)]
  · rw [Nat.min_eq_right (by omega : l.length ≤ a), List.drop_length, List.drop_of_length_le (by omega : l.length ≤ a), List.take_nil, List.take_nil]
theorem cutA_from {α : Type} (l : List α) (a : Nat) : cutA l (some (a : Int)) none = l.drop a := by
  unfold cutA
  rw [HT.sIx_nat, HT.sIx_none]
  by_cases h : a ≤ l.length
  · rw [Nat.min_eq_left h, List.take_of_length_le (by rw [List.length_drop]; omega)]
  · rw [Nat.min_eq_right (by omega : l.length ≤ a), List.drop_length, List.drop_of_length_le (by omega : l.length ≤ a), List.take_nil]
theorem cutA_to {α : Type} (l : List α) (b : Nat) : cutA l none (some (b : Int)) = l.take b := by
  unfold cutA
  rw [HT.sIx_nat, HT.sIx_none, List.drop_zero, Nat.sub_zero]
  by_cases h : b ≤ l.length
  · rw [Nat.min_eq_left h]
  · rw [Nat.min_eq_right (by omega), List.take_length, List.take_of_length_le (by omega)]
theorem divI_nat {b n : Nat} (hn : 0 < n) (h : n ≤ 1000) : divI b n = some ((b / n : Nat) : Int) := by
  rw [divI_ok (by omega) (small_nat h)]
  rfl
theorem modI_nat {b n : Nat} (hn : 0 < n) : modI b n = some ((b % n : Nat) : Int) := by
  rw [modI_ok (by omega)]
  rfl
def fullB (l : List Int) (q f : Nat) : Row := if f < q then [(l, ((q - f : Nat) : Int))] else []
theorem fullB_wd (l : List Int) (q f : Nat) : wd (fullB l q f) = rep (q - f) l := by
  unfold fullB
  split
  · rw [wd_one]
    show rep (Int.toNat _) l = _
    rw [Int.toNat_natCast]
  · have : q - f = 0 := by omega
    rw [this]
    rfl
theorem fullB_len (l : List Int) (q f : Nat) : (fullB l q f).length ≤ 1 := by unfold fullB; split <;> simp
def pobG (l : List Int) (qb rb qe re qm x : Nat) : Row :=
  if qb = qm then [((l.take x).drop rb, 1)]
  else (if 0 < rb then [(l.drop rb, 1)] else []) ++ fullB l qe (qb + if 0 < rb then 1 else 0) ++ (if 0 < re then [(l.take re, 1)] else [])
def pob (l : List Int) (b e : Nat) : Row := pobG l (b / l.length) (b % l.length) (e / l.length) (e % l.length) ((e - 1) / l.length) (e - b / l.length * l.length)
theorem pob_len (l : List Int) (b e : Nat) : (pob l b e).length ≤ 3 := by
  unfold pob pobG
  split
  · simp
  · simp only [List.length_append]
    have h : ∀ (c : Prop) [Decidable c] (x : List Int × Int), (if c then [x] else []).length ≤ 1 := fun c _ x => by split <;> simp
    have h1 := h (0 < b % l.length) (l.drop (b % l.length), 1)
    have h2 := fullB_len l (e / l.length) (b / l.length + if 0 < b % l.length then 1 else 0)
    have h3 := h (0 < e % l.length) (l.take (e % l.length), 1)
    omega
theorem bw_one (l : List Int) : bw (l, 1) = l := by
  show rep 1 l = l
  exact rep_one l
theorem pob_wd (l : List Int) (b e t : Nat) (hl : 0 < l.length) (hb : b < e) (he : e ≤ t * l.length) : wd (pob l b e) = cut (rep t l) b e := by
  rw [rep_cut hl he hb]
  unfold pob pobG
  by_cases q : b / l.length = (e - 1) / l.length
  · rw [if_pos q, if_pos q, wd_one, bw_one]
  · rw [if_neg q, if_neg q, wd_append, wd_append]
    have one : ∀ (c : Prop) [Decidable c] (x : List Int), wd (if c then [(x, 1)] else []) = if c then x else [] := fun c _ x => by
      split
      · rw [wd_one, bw_one]
      · rfl
    rw [one, one, fullB_wd]
    congr 1
    split
    · rfl
    · have : e % l.length = 0 := by omega
      rw [this]
      rfl
structure Pt (b : List Int × Int) : Prop where
  few : b.1.length ≤ 1000
  pos : 0 ≤ b.2
  top : b.2 ≤ 10 ^ 40
  mks : ∀ m ∈ b.1, 0 ≤ m ∧ m ≤ 3
theorem pob_pt (l : List Int) (b e : Nat) (hf : l.length ≤ 1000) (hm : ∀ m ∈ l, 0 ≤ m ∧ m ≤ 3) (he : e ≤ 10 ^ 40) : ∀ x ∈ pob l b e, Pt x := by
  have sub : ∀ (q : List Int), q.Sublist l → Pt (q, 1) := fun q s => ⟨by have := s.length_le; show q.length ≤ 1000; omega, (by decide : (0 : Int) ≤ 1), (by decide : (1 : Int) ≤ 10 ^ 40), fun m h => hm m (s.subset h)⟩
  intro x hx
  unfold pob pobG at hx
  split at hx
  · rw [List.mem_singleton] at hx
    subst hx
    exact sub _ ((List.drop_sublist _ _).trans (List.take_sublist _ _))
  · rw [List.mem_append, List.mem_append] at hx
    rcases hx with (hx | hx) | hx
    · split at hx
      · rw [List.mem_singleton] at hx; subst hx; exact sub _ (List.drop_sublist _ _)
      · cases hx
    · generalize (b / l.length + if 0 < b % l.length then 1 else 0) = f at hx
      unfold fullB at hx
      split at hx
      · rw [List.mem_singleton] at hx
        subst hx
        have := Nat.div_le_self e l.length
        exact ⟨hf, Int.natCast_nonneg _, (by omega : ((e / l.length - f : Nat) : Int) ≤ 10 ^ 40), hm⟩
      · cases hx
    · split at hx
      · rw [List.mem_singleton] at hx; subst hx; exact sub _ (List.take_sublist _ _)
      · cases hx
def bsz (x : List Int × Int) : Nat := x.2.toNat * x.1.length
theorem bw_len (x : List Int × Int) : (bw x).length = bsz x := rep_length _ _
def pof (b e : Nat) : Row → Nat → Row
  | [], _ => []
  | x :: r, A => (if b - A < min (e - A) (bsz x) then pob x.1 (b - A) (min (e - A) (bsz x)) else []) ++ pof b e r (A + bsz x)
theorem pof_len (b e : Nat) : ∀ (r : Row) (A : Nat), (pof b e r A).length ≤ 3 * r.length
  | [], _ => Nat.le_refl _
  | x :: r, A => by
    unfold pof
    rw [List.length_append, List.length_cons]
    have h1 := pof_len b e r (A + bsz x)
    have h2 := pob_len x.1 (b - A) (min (e - A) (bsz x))
    split
    · omega
    · simp; omega
theorem pof_wd (b e : Nat) : ∀ (r : Row) (A : Nat), (∀ x ∈ r, 0 < x.1.length) → wd (pof b e r A) = cut (wd r) (b - A) (e - A)
  | [], A, _ => by unfold pof cut; simp [wd_nil]
  | x :: r, A, h => by
    unfold pof
    rw [wd_append, wd_cons, cut_app, pof_wd b e r _ fun y hy => h y (List.mem_cons_of_mem _ hy), bw_len]
    congr 1
    · by_cases c : b - A < min (e - A) (bsz x)
      · rw [if_pos c, pob_wd x.1 (b - A) (min (e - A) (bsz x)) x.2.toNat (h x List.mem_cons_self) c (Nat.min_le_right _ _)]
        have hm := cut_min (w := bw x) (b := b - A) (e := e - A)
        rw [bw_len] at hm
        exact hm
      · rw [if_neg c]
        have hm := cut_min (w := bw x) (b := b - A) (e := e - A)
        rw [← hm, bw_len, cut_none (by omega)]
        rfl
    · rw [Nat.sub_sub, Nat.sub_sub]
theorem pof_pt (b e : Nat) (he : e ≤ 10 ^ 40) : ∀ (r : Row) (A : Nat), Bks r → ∀ y ∈ pof b e r A, Pt y
  | [], _, _, y, hy => by cases hy
  | x :: r, A, h, y, hy => by
    unfold pof at hy
    rw [List.mem_append] at hy
    rcases hy with hy | hy
    · split at hy
      · have hx := h x List.mem_cons_self
        have := hx.few
        exact pob_pt x.1 _ _ (by omega) hx.mks (by omega) y hy
      · cases hy
    · exact pof_pt b e he r _ (fun z hz => h z (List.mem_cons_of_mem _ hz)) y hy
theorem mul_size {x : List Int × Int} (h : Bk x) : mulI (x.1.length : Int) x.2 = some ((bsz x : Nat) : Int) := by
  rw [mulI_ok (small_nat h.sm.few) (small_top h.sm.pos h.sm.top)]
  congr 1
  unfold bsz
  rw [Int.natCast_mul, toNat_of h.sm.pos, Int.mul_comm]
theorem spots_comp (m : Int) (s0 s2 s3 s4 s5 s6 s7 : Sl) : ∀ (l : List Int) (k : Nat), compF (bMany 2 (bCons (bName 8) (bCons (bName 9) bNil))) (asB (eOp eqF (eVar 9) (eVar 1))) (eVar 8) [s0, .im (.int m), s2, s3, s4, s5, s6, s7, .no, .no] (enD k (l.map D.int)) g = .ok ((posL k m l).map fun p => D.int (p : Nat)) g
  | [], _ => rfl
  | x :: l, k => by
    have ih := spots_comp m s0 s2 s3 s4 s5 s6 s7 l (k + 1)
    rw [List.map_cons, show enD k (D.int x :: l.map D.int) = .many [.int k, .int x] :: enD (k + 1) (l.map D.int) from rfl, comp_cons]
    unfold posL
    by_cases h : x = m
    · subst h
      simp [ih]
    · simp [h, ih]
theorem atI_nat2 {α : Type} {l : List α} {k : Nat} {d : α} (h : l[k]? = some d) : atI l (k : Int) = some d := by
  have hk : k < l.length := (List.getElem?_eq_some_iff.mp h).1
  unfold atI ixN
  rw [if_pos (by omega), if_pos (by omega)]
  simpa using h
def csz (x : List Int × Int) (m : Int) : Nat := x.2.toNat * x.1.count m
theorem bw_count (x : List Int × Int) (m : Int) : (bw x).count m = csz x m := rep_count _ _ _
theorem place_loop (d0 : D) (m : Int) : ∀ (r : Row) (n A : Nat), Bks r → n ≤ 10 ^ 40 →
    (n < (wd r).count m → ∃ p, Occ (wd r) m n p ∧ loopF (bOne (bTup 2 (bCons (bName 4) (bCons (bName 5) bNil)))) [4, 5, 6, 7] (sSeq (sSet 6 (eMeth D.isTup countF (eVar 4) (aCons (eVar 1) aNil))) (sSeq (sIf (asB (eOp ltF (eVar 2) (eOp mulD (eVar 6) (eVar 5)))) (sSeq (sSet 7 (eLst (eComp (yEn (aCons (eVar 4) aNil)) [8, 9] (bMany 2 (bCons (bName 8) (bCons (bName 9) bNil))) (asB (eOp eqF (eVar 9) (eVar 1))) (eVar 8)))) (sRet (eOp addD (eOp addD (eVar 3) (eOp mulD (eOp (arI divI) (eVar 2) (eVar 6)) (eArgs lenF (aCons (eVar 4) aNil)))) (eOp ixF (eVar 7) (eOp (arI modI) (eVar 2) (eVar 6)))))) sNil) (sSeq (sAug 2 (arI subI) (eOp mulD (eVar 6) (eVar 5))) (sAug 3 (arI plusI) (eOp mulD (eArgs lenF (aCons (eVar 4) aNil)) (eVar 5)))))) (r.map (Yd.one ∘ blkD)) [.im d0, .im (.int m), .im (.int n), .im (.int A), .no, .no, .no, .no, .no, .no] g = .ok (.rt (.int ((A + p : Nat) : Int))) g) ∧
    (¬ n < (wd r).count m → ∃ ρ, loopF (bOne (bTup 2 (bCons (bName 4) (bCons (bName 5) bNil)))) [4, 5, 6, 7] (sSeq (sSet 6 (eMeth D.isTup countF (eVar 4) (aCons (eVar 1) aNil))) (sSeq (sIf (asB (eOp ltF (eVar 2) (eOp mulD (eVar 6) (eVar 5)))) (sSeq (sSet 7 (eLst (eComp (yEn (aCons (eVar 4) aNil)) [8, 9] (bMany 2 (bCons (bName 8) (bCons (bName 9) bNil))) (asB (eOp eqF (eVar 9) (eVar 1))) (eVar 8)))) (sRet (eOp addD (eOp addD (eVar 3) (eOp mulD (eOp (arI divI) (eVar 2) (eVar 6)) (eArgs lenF (aCons (eVar 4) aNil)))) (eOp ixF (eVar 7) (eOp (arI modI) (eVar 2) (eVar 6)))))) sNil) (sSeq (sAug 2 (arI subI) (eOp mulD (eVar 6) (eVar 5))) (sAug 3 (arI plusI) (eOp mulD (eArgs lenF (aCons (eVar 4) aNil)) (eVar 5)))))) (r.map (Yd.one ∘ blkD)) [.im d0, .im (.int m), .im (.int n), .im (.int A), .no, .no, .no, .no, .no, .no] g = .ok (.nx ρ) g)
  | [], n, A, _, _ => ⟨fun h => by simp [wd_nil] at h, fun _ => ⟨_, rfl⟩⟩
  | x :: r, n, A, h, hn => by
    have hx := h x List.mem_cons_self
    have hr : Bks r := fun y hy => h y (List.mem_cons_of_mem _ hy)
    have hc : (wd (x :: r)).count m = csz x m + (wd r).count m := by rw [wd_cons, List.count_append, bw_count]
    have hf := hx.few
    have h1 := hx.one
    have hq : x.1.count m ≤ 1000 := Nat.le_trans List.count_le_length hx.sm.few
    have hmc : mulI ((x.1.count m : Nat) : Int) x.2 = some ((csz x m : Nat) : Int) := by
      rw [mulI_ok (small_nat hq) (small_top hx.sm.pos hx.sm.top)]
      congr 1
      unfold csz
      rw [Int.natCast_mul, toNat_of hx.sm.pos, Int.mul_comm]
    have hms := mul_size hx
    have hty : D.isTup (marksD x.1) = true := rfl
    rw [List.map_cons, loop_step (ρ1 := [.im d0, .im (.int m), .im (.int n), .im (.int A), .im (marksD x.1), .im (.int x.2), .no, .no, .no, .no]) (by simp [blkD])]
    by_cases c : n < csz x m
    · refine ⟨fun _ => ?_, fun z => absurd (by omega) z⟩
      have c' : (n : Int) < ((csz x m : Nat) : Int) := by omega
      have hc0 : 0 < x.1.count m := by
        by_cases z : x.1.count m = 0
        · unfold csz at c; rw [z] at c; omega
        · omega
      have hmod : n % x.1.count m < (posL 0 m x.1).length := by rw [posL_length]; exact Nat.mod_lt _ hc0
      have hs : (posL 0 m x.1)[n % x.1.count m]? = some (posL 0 m x.1)[n % x.1.count m] := List.getElem?_eq_getElem hmod
      obtain ⟨_, oc⟩ := posL_at m x.1 0 _ _ hs
      rw [Nat.sub_zero] at oc
      have oc2 := oc.block (t := x.2.toNat) (by unfold csz at c; rw [Nat.mul_comm]; exact c)
      generalize hsp : (posL 0 m x.1)[n % x.1.count m] = sp at *
      refine ⟨_, oc2.app (v := wd r), ?_⟩
      have hat : atI ((posL 0 m x.1).map fun p => D.int (p : Nat)) ((n % x.1.count m : Nat) : Int) = some (.int (sp : Nat)) := atI_nat2 (by rw [List.getElem?_map, hs]; rfl)
      have hd1 := divI_nat (b := n) hc0 hq
      have hd2 := modI_nat (b := n) hc0
      have hm2 : mulI ((n / x.1.count m : Nat) : Int) (x.1.length : Int) = some ((n / x.1.count m * x.1.length : Nat) : Int) := by
        have := Nat.div_le_self n (x.1.count m)
        rw [mulI_ok (small_top (Int.natCast_nonneg _) (by omega)) (small_nat hx.sm.few)]
        rfl
      have sc := spots_comp (g := g) m (.im d0) (.im (.int n)) (.im (.int A)) (.im (marksD x.1)) (.im (.int x.2)) (.im (.int (x.1.count m))) .no x.1 0
      simp only [marksD] at sc hty
      generalize n / x.1.count m * x.1.length = e1 at *
      generalize n / x.1.count m = e2 at *
      generalize n % x.1.count m = e3 at *
      have hlen : (enD 0 (x.1.map D.int)).length ≤ 1000000 := by rw [enD_length, List.length_map]; omega
      have cm := count_marks (g := g) x.1 m
      simp only [marksD] at cm
      have hix : ixF (.lst ((posL 0 m x.1).map fun p => D.int (p : Nat))) (.int (e3 : Nat)) g = .ok (.int (sp : Nat)) g := by
        show op (atI _ _) g = _
        rw [hat]
        rfl
      simp [hty, cm, hmc, c', marksD, hlen, sc, hd1, hd2, hm2, hix]
      omega
    · have c' : ¬ (n : Int) < ((csz x m : Nat) : Int) := by omega
      have hsub : (n : Int) - ((csz x m : Nat) : Int) = ((n - csz x m : Nat) : Int) := by omega
      obtain ⟨ih1, ih2⟩ := place_loop d0 m r (n - csz x m) (A + bsz x) hr (by omega)
      have cm := count_marks (g := g) x.1 m
      simp only [marksD] at cm hty
      rw [Int.natCast_add] at ih1 ih2
      generalize hnn : n - csz x m = nn at *
      refine ⟨fun z => ?_, fun z => ?_⟩
      · obtain ⟨p, oc, e⟩ := ih1 (by omega)
        have oc2 := oc.behind (w := bw x)
        rw [bw_count, bw_len] at oc2
        have e3 : csz x m + nn = n := by omega
        rw [e3] at oc2
        refine ⟨_, oc2, ?_⟩
        simp [hty, cm, hmc, c', marksD, hms, hsub, e]
        omega
      · obtain ⟨ρ, e⟩ := ih2 (by omega)
        refine ⟨ρ, ?_⟩
        simp [hty, cm, hmc, c', marksD, hms, hsub, e]
theorem un_map (l : List Int) : (l.map D.int).map (fun d => match d with | .int i => i | _ => 0) = l := by
  rw [List.map_map]
  exact List.map_id' l
theorem row_compD {r : Row} {ρ : Dl.Env} {b : Yd → Dl.Env → Option Dl.Env} {tm : Me Bool} {el : Me D} (f : (List Int × Int) → D) (h : ∀ x ∈ r, ∃ ρ1, b (.one (blkD x)) ρ = some ρ1 ∧ tm ρ1 g = .ok true g ∧ el ρ1 g = .ok (f x) g) :
    compF b tm el ρ (r.map (Yd.one ∘ blkD)) g = .ok (r.map f) g := by
  induction r with
  | nil => rfl
  | cons x r ih =>
    obtain ⟨ρ1, h1, h2, h3⟩ := h x List.mem_cons_self
    rw [List.map_cons, comp_cons]
    show (match b (.one (blkD x)) ρ with
      | none => Re.bad
      | some ρ1 => (tm ρ1 g).nox.bind fun k g => if k = true then (el ρ1 g).nox.bind fun d g => (compF b tm el ρ (r.map (Yd.one ∘ blkD)) g).bind fun l g => .ok (d :: l) g else compF b tm el ρ (r.map (Yd.one ∘ blkD)) g) = _
    rw [h1]
    simp [h2, h3, ih fun y hy => h y (List.mem_cons_of_mem _ hy)]
def turned (r : Row) : Row := r.reverse.map fun b => (b.1.reverse, b.2)
theorem turned_bks {r : Row} (h : Bks r) : Bks (turned r) := by
  intro y hy
  unfold turned at hy
  rw [List.mem_map] at hy
  obtain ⟨x, hx, rfl⟩ := hy
  have z := h x (List.mem_reverse.mp hx)
  exact ⟨by simpa using z.one, by simpa using z.few, fun m hm => z.mks m (by simpa using hm), z.pos, z.top⟩
theorem F_blocks_turned_row (r : Row) (hl : r.length ≤ 1000) : F_blocks_turned [rowD r] g = .ok (rowD (turned r)) g := by
  have q := row_compD (g := g) (r := r.reverse) (ρ := [.im (rowD r), .no, .no]) (b := bOne (bTup 2 (bCons (bName 1) (bCons (bName 2) bNil)))) (tm := tmYes) (el := eTup (aCons (eUn revF (eVar 1)) (aCons (eVar 2) aNil))) (fun b => blkD (b.1.reverse, b.2)) (fun x hx => ⟨[.im (rowD r), .im (marksD x.1), .im (.int x.2)], by simp [blkD], rfl, by simp [marksD, revF, blkD]⟩)
  simp only [rowD] at q
  simp [F_blocks_turned, bodyF, entry, m_blocks_turned, rowD, revF]
  have hl' : r.length ≤ 1000000 := by omega
  rw [List.map_reverse] at q
  simp [hl', q, turned]
end Wk
set_option linter.all false
set_option maxRecDepth 100000
set_option maxHeartbeats 4000000
namespace Wk
open PySem L2 Dl Rw
variable {g : G}
abbrev pieceB : Ms := (sSeq (sSet 7 (eArgs lenF (aCons (eVar 5) aNil))) (sSeq (sPar 8 9 (zIm (eOp (arI subI) (eArgs max2F (aCons (eVar 1) (aCons (eVar 4) aNil))) (eVar 4)) (zIm (eOp (arI subI) (eArgs min2F (aCons (eVar 2) (aCons (eOp addD (eVar 4) (eOp mulD (eVar 7) (eVar 6))) aNil))) (eVar 4)) zNil))) (sSeq (sSet 4 (eOp addD (eVar 4) (eOp mulD (eVar 7) (eVar 6)))) (sSeq (sPar 10 11 (zIm (eOp (arI modI) (eArgs intF (aCons (eVar 8) aNil)) (eVar 7)) (zIm (eOp (arI modI) (eArgs intF (aCons (eVar 9) aNil)) (eVar 7)) zNil))) (sIf (tAndM (asB (eOp ltF (eVar 8) (eVar 9))) (asB (eOp eqF (eOp (arI divI) (eVar 8) (eVar 7)) (eOp (arI divI) (eOp (arI subI) (eVar 9) (eC (.int 1))) (eVar 7))))) (sApp 3 (eTup (aCons (eSl slF (eVar 5) (oSome (eVar 10)) (oSome (eOp (arI subI) (eOp addD (eVar 10) (eVar 9)) (eVar 8)))) (aCons (eC (.int 1)) aNil)))) (sIf (asB (eOp ltF (eVar 8) (eVar 9))) (sSeq (sSet 12 (eLst (eList (aCons (eTup (aCons (eSl slF (eVar 5) (oSome (eVar 10)) oNone) (aCons (eArgs intF (aCons (eOp gtF (eVar 10) (eC (.int 0))) aNil)) aNil))) (aCons (eTup (aCons (eVar 5) (aCons (eOp (arI subI) (eOp (arI divI) (eVar 9) (eVar 7)) (eOp (arI divI) (eOp (arI subI) (eOp addD (eVar 8) (eVar 7)) (eC (.int 1))) (eVar 7))) aNil))) aNil))))) (sOwn 3 (eOp catL (eBor 3) (eLst (eComp (yVal (eOp addD (eVar 12) (eLst (eList (aCons (eTup (aCons (eSl slF (eVar 5) oNone (oSome (eVar 11))) (aCons (eArgs intF (aCons (eOp gtF (eVar 11) (eC (.int 0))) aNil)) aNil))) aNil))))) [13] (bOne (bName 13)) (asB (eOp gtF (eOp ixF (eVar 13) (eC (.int 1))) (eC (.int 0)))) (eVar 13)))))) sNil))))))
abbrev pieceT : Yd → Dl.Env → Option Dl.Env := bOne (bTup 2 (bCons (bName 5) (bCons (bName 6) bNil)))
theorem piece_loop (d0 : D) (b e : Nat) (he : e ≤ 10 ^ 40) : ∀ (r : Row) (A : Nat) (p : Row), Bks r → p.length + 3 * r.length ≤ 1000 →
    loopF pieceT [5, 6, 7, 8, 9, 10, 11, 12] pieceB (r.map (Yd.one ∘ blkD)) [.im d0, .im (.int b), .im (.int e), .ow (p.map blkD), .im (.int A), .no, .no, .no, .no, .no, .no, .no, .no, .no] g
      = .ok (.nx [.im d0, .im (.int b), .im (.int e), .ow ((p ++ pof b e r A).map blkD), .im (.int ((A + (wd r).length : Nat) : Int)), .no, .no, .no, .no, .no, .no, .no, .no, .no]) g
  | [], A, p, _, _ => by simp [loop_nil, pof, wd_nil]
  | x :: r, A, p, h, hl => by
    have hx := h x List.mem_cons_self
    have hr : Bks r := fun y hy => h y (List.mem_cons_of_mem _ hy)
    rw [List.length_cons] at hl
    have hms := mul_size hx
    have hlow : max (b : Int) (A : Int) - A = ((b - A : Nat) : Int) := by omega
    have hlen : (wd (x :: r)).length = bsz x + (wd r).length := by rw [wd_cons, List.length_append, bw_len]
    have hn : 0 < x.1.length := by have := hx.one; omega
    have hn2 : x.1.length ≤ 1000 := by have := hx.few; omega
    have hmod1 : modI ((b - A : Nat) : Int) (x.1.length : Int) = some (((b - A) % x.1.length : Nat) : Int) := modI_nat hn
    rw [List.map_cons, loop_step (ρ1 := [.im d0, .im (.int b), .im (.int e), .ow (p.map blkD), .im (.int A), .im (marksD x.1), .im (.int x.2), .no, .no, .no, .no, .no, .no, .no]) (by simp [blkD])]
    by_cases c : b - A < min (e - A) (bsz x)
    · have hhi : min (e : Int) ((A : Int) + ((bsz x : Nat) : Int)) - A = ((min (e - A) (bsz x) : Nat) : Int) := by omega
      have ih := piece_loop d0 b e he r (A + bsz x) (p ++ pob x.1 (b - A) (min (e - A) (bsz x))) hr (by rw [List.length_append]; have := pob_len x.1 (b - A) (min (e - A) (bsz x)); omega)
      have hk := pob_len x.1 (b - A) (min (e - A) (bsz x))
      unfold pof
      rw [if_pos c, hlen, ← Nat.add_assoc, ← List.append_assoc]
      generalize hmn : min (e - A) (bsz x) = mn at *
      generalize hbm : b - A = bm at *
      have c' : (bm : Int) < (mn : Int) := by omega
      have e1 : (mn : Int) - 1 = ((mn - 1 : Nat) : Int) := by omega
      have d1 : divI bm x.1.length = some ((bm / x.1.length : Nat) : Int) := divI_nat hn hn2
      have d3 : divI ((mn : Int) - 1) x.1.length = some (((mn - 1) / x.1.length : Nat) : Int) := by rw [e1]; exact divI_nat hn hn2
      have d4 : divI mn x.1.length = some ((mn / x.1.length : Nat) : Int) := divI_nat hn hn2
      have d5 : modI mn x.1.length = some ((mn % x.1.length : Nat) : Int) := modI_nat hn
      have d6 : divI ((bm : Int) + (x.1.length : Int) - 1) x.1.length = some ((bm / x.1.length + (if 0 < bm % x.1.length then 1 else 0) : Nat) : Int) := by
        have e2 : (bm : Int) + (x.1.length : Int) - 1 = ((bm + x.1.length - 1 : Nat) : Int) := by omega
        rw [e2, divI_nat hn hn2]
        congr 2
        have eb : bm = bm / x.1.length * x.1.length + bm % x.1.length := by
          have := Nat.div_add_mod bm x.1.length
          rw [Nat.mul_comm]; exact this.symm
        have rb := Nat.mod_lt bm hn
        by_cases z : 0 < bm % x.1.length
        · rw [if_pos z]
          have e3 : bm + x.1.length - 1 = (bm / x.1.length + 1) * x.1.length + (bm % x.1.length - 1) := by rw [Nat.succ_mul]; omega
          rw [e3, divm (by omega)]
        · rw [if_neg z]
          have e3 : bm + x.1.length - 1 = bm / x.1.length * x.1.length + (x.1.length - 1) := by omega
          rw [e3, divm (by omega)]
          rfl
      have hx1 : ((bm % x.1.length : Nat) : Int) + (mn : Int) - (bm : Int) = ((mn - bm / x.1.length * x.1.length : Nat) : Int) := by
        have := Nat.div_add_mod bm x.1.length
        rw [Nat.mul_comm] at this
        omega
      have hpob : pob x.1 bm mn = pobG x.1 (bm / x.1.length) (bm % x.1.length) (mn / x.1.length) (mn % x.1.length) ((mn - 1) / x.1.length) (mn - bm / x.1.length * x.1.length) := rfl
      rw [hpob] at ih hk ⊢
      simp only [Int.natCast_add, List.append_assoc] at ih
      generalize mn - bm / x.1.length * x.1.length = xx at *
      generalize bm / x.1.length = qb at *
      generalize bm % x.1.length = rb at *
      generalize mn / x.1.length = qe at *
      generalize mn % x.1.length = re at *
      generalize (mn - 1) / x.1.length = qm at *
      clear e1 hpob
      unfold pobG at ih ⊢
      by_cases q : qb = qm
      · subst q
        rw [if_pos rfl] at ih ⊢
        have hpl : p.length < 1000000 := by omega
        simp [List.map_append, blkD, marksD] at ih
        simp [marksD, hms, hlow, hhi, c', hmod1, d1, d3, d5, hx1, cutA_map, cutA_nat, hpl, ih, blkD]
      · rw [if_neg q] at ih ⊢
        have q' : ¬ ((qb : Int) = (qm : Int)) := by omega
        have hpl : p.length < 1000000 := by omega
        have k0 : p.length ≤ 1000000 := by omega
        have k1 : p.length + 1 ≤ 1000000 := by omega
        have k2 : p.length + 2 ≤ 1000000 := by omega
        have k3 : p.length + 3 ≤ 1000000 := by omega
        have k4 : p.length ≤ 999999 := by omega
        have k5 : p.length ≤ 999998 := by omega
        have k6 : p.length ≤ 999997 := by omega
        unfold fullB at ih ⊢
        by_cases h1 : 0 < rb
        · have h1' : (0 : Int) < rb := by omega
          by_cases h2 : qb + 1 < qe
          · have h3 : (qe : Int) - ((qb : Int) + 1) = ((qe - (qb + 1) : Nat) : Int) := by omega
            have h3' : (0 : Int) < ((qe - (qb + 1) : Nat) : Int) := by omega
            have h3n : 0 < qe - (qb + 1) := by omega
            by_cases h4 : 0 < re
            · have h4' : (0 : Int) < re := by omega
              simp [List.map_append, blkD, marksD, h1, h2, h4] at ih
              simp [marksD, hms, hlow, hhi, c', hmod1, d1, d3, d4, d5, d6, q', h1, h1', h2, h3, h3', h3n, h4, h4', cutA_map, cutA_from, cutA_to, hpl, k0, k1, k2, k3, k4, k5, k6, comp_cons, comp_nil, blkD, ih]
            · have h4' : ¬ (0 : Int) < re := by omega
              simp [List.map_append, blkD, marksD, h1, h2, h4] at ih
              simp [marksD, hms, hlow, hhi, c', hmod1, d1, d3, d4, d5, d6, q', h1, h1', h2, h3, h3', h3n, h4, h4', cutA_map, cutA_from, cutA_to, hpl, k0, k1, k2, k3, k4, k5, k6, comp_cons, comp_nil, blkD, ih]
          · have h3 : ¬ (0 : Int) < (qe : Int) - ((qb : Int) + 1) := by omega
            have h3n : ¬ (qb : Int) + 1 < (qe : Int) := by omega
            by_cases h4 : 0 < re
            · have h4' : (0 : Int) < re := by omega
              simp [List.map_append, blkD, marksD, h1, h2, h4] at ih
              simp [marksD, hms, hlow, hhi, c', hmod1, d1, d3, d4, d5, d6, q', h1, h1', h2, h3, h3n, h4, h4', cutA_map, cutA_from, cutA_to, hpl, k0, k1, k2, k3, k4, k5, k6, comp_cons, comp_nil, blkD, ih]
            · have h4' : ¬ (0 : Int) < re := by omega
              simp [List.map_append, blkD, marksD, h1, h2, h4] at ih
              simp [marksD, hms, hlow, hhi, c', hmod1, d1, d3, d4, d5, d6, q', h1, h1', h2, h3, h3n, h4, h4', cutA_map, cutA_from, cutA_to, hpl, k0, k1, k2, k3, k4, k5, k6, comp_cons, comp_nil, blkD, ih]
        · have h1' : ¬ (0 : Int) < rb := by omega
          by_cases h2 : qb < qe
          · have h3 : (qe : Int) - ((qb : Int)) = ((qe - (qb) : Nat) : Int) := by omega
            have h3' : (0 : Int) < ((qe - (qb) : Nat) : Int) := by omega
            have h3n : 0 < qe - (qb) := by omega
            by_cases h4 : 0 < re
            · have h4' : (0 : Int) < re := by omega
              simp [List.map_append, blkD, marksD, h1, h2, h4] at ih
              simp [marksD, hms, hlow, hhi, c', hmod1, d1, d3, d4, d5, d6, q', h1, h1', h2, h3, h3', h3n, h4, h4', cutA_map, cutA_from, cutA_to, hpl, k0, k1, k2, k3, k4, k5, k6, comp_cons, comp_nil, blkD, ih]
            · have h4' : ¬ (0 : Int) < re := by omega
              simp [List.map_append, blkD, marksD, h1, h2, h4] at ih
              simp [marksD, hms, hlow, hhi, c', hmod1, d1, d3, d4, d5, d6, q', h1, h1', h2, h3, h3', h3n, h4, h4', cutA_map, cutA_from, cutA_to, hpl, k0, k1, k2, k3, k4, k5, k6, comp_cons, comp_nil, blkD, ih]
          · have h3 : ¬ (0 : Int) < (qe : Int) - ((qb : Int)) := by omega
            have h3n : ¬ (qb : Int) < (qe : Int) := by omega
            by_cases h4 : 0 < re
            · have h4' : (0 : Int) < re := by omega
              simp [List.map_append, blkD, marksD, h1, h2, h4] at ih
              simp [marksD, hms, hlow, hhi, c', hmod1, d1, d3, d4, d5, d6, q', h1, h1', h2, h3, h3n, h4, h4', cutA_map, cutA_from, cutA_to, hpl, k0, k1, k2, k3, k4, k5, k6, comp_cons, comp_nil, blkD, ih]
            · have h4' : ¬ (0 : Int) < re := by omega
              simp [List.map_append, blkD, marksD, h1, h2, h4] at ih
              simp [marksD, hms, hlow, hhi, c', hmod1, d1, d3, d4, d5, d6, q', h1, h1', h2, h3, h3n, h4, h4', cutA_map, cutA_from, cutA_to, hpl, k0, k1, k2, k3, k4, k5, k6, comp_cons, comp_nil, blkD, ih]
    · have ih := piece_loop d0 b e he r (A + bsz x) p hr (by omega)
      unfold pof
      rw [if_neg c, hlen, ← Nat.add_assoc, List.nil_append]
      have c' : ¬ ((b - A : Nat) : Int) < min (e : Int) ((A : Int) + ((bsz x : Nat) : Int)) - A := by omega
      have hm2 : modI (min (e : Int) ((A : Int) + ((bsz x : Nat) : Int)) - A) (x.1.length : Int) = some ((min (e : Int) ((A : Int) + ((bsz x : Nat) : Int)) - A) % (x.1.length : Int)) := modI_ok (by omega)
      generalize hhh : min (e : Int) ((A : Int) + ((bsz x : Nat) : Int)) - A = hh at *
      generalize b - A = bm at *
      simp only [List.map_append, Int.natCast_add] at ih
      simp [marksD, hms, hlow, hhh, c', hmod1, hm2, ih]
theorem F__law_piece_row (r : Row) (b e : Nat) (h : Rk r) (he : e ≤ 10 ^ 40) : F__law_piece [rowD r, .int b, .int e] g = .ok (rowD (pof b e r 0)) g := by
  have q := piece_loop (g := g) (rowD r) b e he r 0 [] h.bk (by have := h.few; simp; omega)
  simp only [List.map_nil, List.nil_append, Nat.zero_add, rowD] at q
  simp [F__law_piece, bodyF, entry, m__law_piece, rowD]
  rw [show ((0 : Nat) : Int) = 0 from rfl] at q
  simp [q]
end Wk
set_option linter.all false
set_option maxRecDepth 100000
set_option maxHeartbeats 4000000
namespace Wk
open PySem L2 Dl Rw
variable {g : G}
theorem pow10_le {m : Nat} (h : m ≤ 40) : (10 : Int) ^ m ≤ 10 ^ 40 := by
  have h2 : (10 : Nat) ^ m ≤ 10 ^ 40 := Nat.pow_le_pow_right (by decide) h
  have h3 : (((10 : Nat) ^ m : Nat) : Int) ≤ (((10 : Nat) ^ 40 : Nat) : Int) := Int.ofNat_le.mpr h2
  rw [Int.natCast_pow, Int.natCast_pow] at h3
  exact h3
theorem pow10_pos (m : Nat) : (0 : Int) < 10 ^ m := Int.pow_pos (by decide)
theorem tens_loop (d0 : D) : ∀ (m : Nat) (lo : Int) (c : Nat), c + m ≤ 40 → loopF (bOne (bName 2)) [2] (sSet 1 (eOp mulD (eVar 1) (eC (.int 10)))) (rgD lo 1 m) [.im d0, .im (.int (10 ^ c)), .no] g = .ok (.nx [.im d0, .im (.int (10 ^ (c + m))), .no]) g
  | 0, lo, c, _ => rfl
  | m + 1, lo, c, h => by
    have h1 := pow10_le (show c ≤ 40 by omega)
    have h0 := pow10_pos c
    have a1 : mulI (10 ^ c) 10 = some (10 ^ c * 10) := mulI_nn (by omega) (by omega) (by decide) (by decide)
    have ih := tens_loop d0 m (lo + 1) (c + 1) (by omega)
    rw [Int.pow_succ] at ih
    rw [show rgD lo 1 (m + 1) = .one (.int lo) :: rgD (lo + 1) 1 m from rfl, loop_step (ρ1 := [.im d0, .im (.int (10 ^ c)), .im (.int lo)]) (by simp)]
    have e : c + (m + 1) = c + 1 + m := by omega
    rw [e]
    simp [a1, ih]
theorem F__law_tens_ok (n : Nat) (h : n ≤ 30) : F__law_tens [.int n] g = .ok (.int (10 ^ n)) g := by
  have q := tens_loop (g := g) (.int n) n 0 0 (by omega)
  rw [Nat.zero_add] at q
  have hs : smallI (n : Int) = true := by
    unfold smallI
    exact decide_eq_true (by omega)
  rw [show (10 : Int) ^ 0 = 1 from rfl] at q
  simp [F__law_tens, bodyF, entry, m__law_tens, hs, q]
abbrev digB (B : Int) : Ms := sSet 1 (eOp addD (eOp mulD (eVar 1) (eC (.int B))) (eCall 2 F__law_draw (aCons (eVar 0) (aCons (eC (.int B)) aNil))))
theorem dig_loop (B : Int) (hB : 1 ≤ B) (hB2 : B ≤ 10 ^ 9) : ∀ (m : Nat) (lo v W : Int) (k : Nat) (g : G), Gk k g → k + m ≤ 10 ^ 8 → 0 ≤ v → 1 ≤ W → v ≤ W → W * 10 ^ (10 * m) ≤ 10 ^ 90 →
    ∃ v' g', loopF (bOne (bName 2)) [2] (digB B) (rgD lo 1 m) [.im .hdl, .im (.int v), .no] g = .ok (.nx [.im .hdl, .im (.int v'), .no]) g' ∧ 0 ≤ v' ∧ v' ≤ 10 ^ 90 ∧ Gk (k + m) g'
  | 0, lo, v, W, k, g, hg, _, h0, hW, h1, h2 => ⟨v, g, rfl, h0, by rw [Nat.mul_zero, Int.pow_zero, Int.mul_one] at h2; omega, hg⟩
  | m + 1, lo, v, W, k, g, hg, hk, h0, hW, h1, h2 => by
    obtain ⟨r, g1, e1, r0, r1, hg1⟩ := F__law_draw_ok k B hg (by omega) hB (by omega)
    have hWW : W ≤ 10 ^ 90 := by
      have z := Int.mul_le_mul_of_nonneg_left (show (1 : Int) ≤ 10 ^ (10 * (m + 1)) from pow10_pos _) (show 0 ≤ W by omega)
      omega
    have a1 : mulI v B = some (v * B) := mulI_nn h0 (by omega) (by omega) (by omega)
    have bd := mul_bd h0 h1 (show 0 ≤ B by omega) hB2
    have hp : W * 10 ^ 10 * 10 ^ (10 * m) = W * 10 ^ (10 * (m + 1)) := by
      rw [Int.mul_assoc, ← Int.pow_add]
      congr 2
      omega
    obtain ⟨v', g', e2, v0, v1, hg2⟩ := dig_loop B hB hB2 m (lo + 1) (v * B + r) (W * 10 ^ 10) (k + 1) g1 hg1 (by omega) (by omega) (by omega) (by omega) (by rw [hp]; exact h2)
    refine ⟨v', g', ?_, v0, v1, by rw [show k + (m + 1) = k + 1 + m by omega]; exact hg2⟩
    rw [show rgD lo 1 (m + 1) = .one (.int lo) :: rgD (lo + 1) 1 m from rfl, loop_step (ρ1 := [.im .hdl, .im (.int v), .im (.int lo)]) (by simp)]
    simp [a1, e1, e2]
theorem F__law_times_ok (k : Nat) (hg : Gk k g) (hk : k ≤ 10 ^ 7) : ∃ t g', F__law_times [.hdl] g = .ok (.int t) g' ∧ 1 ≤ t ∧ t ≤ 10 ^ 30 ∧ Gk (k + 10) g' := by
  obtain ⟨r, g1, e1, r0, r1, hg1⟩ := F__law_draw_ok k 2 hg (by omega) (by decide) (by decide)
  by_cases h : r = 0
  · obtain ⟨q, g2, e2, q0, q1, hg2⟩ := F__law_draw_ok (k + 1) 4 hg1 (by omega) (by decide) (by decide)
    refine ⟨1 + q, g2, ?_, by omega, by omega, hg2.mono (by omega)⟩
    subst h
    simp [F__law_times, bodyF, entry, m__law_times, e1, e2]
  · obtain ⟨v, g2, e2, v0, v1, hg2⟩ := dig_loop 100000000 (by decide) (by decide) 4 0 0 1 (k + 1) g1 hg1 (by omega) (by decide) (by decide) (by decide) (by decide)
    obtain ⟨q, g3, e3, q0, q1, hg3⟩ := F__law_draw_ok (k + 1 + 4) 30 hg2 (by omega) (by decide) (by decide)
    obtain ⟨n, hn⟩ : ∃ n : Nat, 1 + q = (n : Int) := ⟨(1 + q).toNat, by omega⟩
    have ht := F__law_tens_ok (g := g3) n (by omega)
    have hp := pow10_pos n
    have hm : modI v (10 ^ n) = some (v % 10 ^ n) := modI_ok hp
    have hm0 := Int.emod_nonneg v (show (10 : Int) ^ n ≠ 0 by omega)
    have hm1 := Int.emod_lt_of_pos v hp
    have hle : (10 : Int) ^ n ≤ 10 ^ 30 := by
      have h2 : (10 : Nat) ^ n ≤ 10 ^ 30 := Nat.pow_le_pow_right (by decide) (by omega)
      have h3 : (((10 : Nat) ^ n : Nat) : Int) ≤ (((10 : Nat) ^ 30 : Nat) : Int) := Int.ofNat_le.mpr h2
      rw [Int.natCast_pow, Int.natCast_pow] at h3
      exact h3
    refine ⟨1 + v % 10 ^ n, g3, ?_, by omega, by omega, hg3.mono (by omega)⟩
    have h2 : (digB 100000000) = (sSet 1 (eOp addD (eOp mulD (eVar 1) (eC (.int 100000000))) (eCall 2 F__law_draw (aCons (eVar 0) (aCons (eC (.int 100000000)) aNil))))) := rfl
    rw [h2] at e2
    simp [F__law_times, bodyF, entry, m__law_times, e1, h, e2, e3, hn, ht, hm]
end Wk
set_option linter.all false
set_option maxRecDepth 100000
set_option maxHeartbeats 4000000
namespace Wk
open PySem L2 Dl Rw
variable {g : G}
abbrev digC (B : Int) : Ms := sSet 2 (eOp addD (eOp mulD (eVar 2) (eC (.int B))) (eCall 2 F__law_draw (aCons (eVar 0) (aCons (eC (.int B)) aNil))))
theorem dig_loopC (d1 : D) (B : Int) (hB : 1 ≤ B) (hB2 : B ≤ 10 ^ 9) : ∀ (m : Nat) (lo v W : Int) (k : Nat) (g : G), Gk k g → k + m ≤ 10 ^ 8 → 0 ≤ v → 1 ≤ W → v ≤ W → W * 10 ^ (10 * m) ≤ 10 ^ 90 →
    ∃ v' g', loopF (bOne (bName 3)) [3] (digC B) (rgD lo 1 m) [.im .hdl, .im d1, .im (.int v), .no] g = .ok (.nx [.im .hdl, .im d1, .im (.int v'), .no]) g' ∧ 0 ≤ v' ∧ v' ≤ 10 ^ 90 ∧ Gk (k + m) g'
  | 0, lo, v, W, k, g, hg, _, h0, hW, h1, h2 => ⟨v, g, rfl, h0, by rw [Nat.mul_zero, Int.pow_zero, Int.mul_one] at h2; omega, hg⟩
  | m + 1, lo, v, W, k, g, hg, hk, h0, hW, h1, h2 => by
    obtain ⟨r, g1, e1, r0, r1, hg1⟩ := F__law_draw_ok k B hg (by omega) hB (by omega)
    have hWW : W ≤ 10 ^ 90 := by
      have z := Int.mul_le_mul_of_nonneg_left (show (1 : Int) ≤ 10 ^ (10 * (m + 1)) from pow10_pos _) (show 0 ≤ W by omega)
      omega
    have a1 : mulI v B = some (v * B) := mulI_nn h0 (by omega) (by omega) (by omega)
    have bd := mul_bd h0 h1 (show 0 ≤ B by omega) hB2
    have hp : W * 10 ^ 10 * 10 ^ (10 * m) = W * 10 ^ (10 * (m + 1)) := by
      rw [Int.mul_assoc, ← Int.pow_add]
      congr 2
      omega
    obtain ⟨v', g', e2, v0, v1, hg2⟩ := dig_loopC d1 B hB hB2 m (lo + 1) (v * B + r) (W * 10 ^ 10) (k + 1) g1 hg1 (by omega) (by omega) (by omega) (by omega) (by rw [hp]; exact h2)
    refine ⟨v', g', ?_, v0, v1, by rw [show k + (m + 1) = k + 1 + m by omega]; exact hg2⟩
    rw [show rgD lo 1 (m + 1) = .one (.int lo) :: rgD (lo + 1) 1 m from rfl, loop_step (ρ1 := [.im .hdl, .im d1, .im (.int v), .im (.int lo)]) (by simp)]
    simp [a1, e1, e2]
theorem F__law_below_ok (k : Nat) (l : Int) (hg : Gk k g) (hk : k ≤ 10 ^ 7) (hl : 1 ≤ l) : ∃ v g', F__law_below [.hdl, .int l] g = .ok (.int v) g' ∧ 0 ≤ v ∧ v < l ∧ Gk (k + 5) g' := by
  obtain ⟨v, g2, e2, v0, v1, hg2⟩ := dig_loopC (.int l) 1000000000 (by decide) (by decide) 5 0 0 1 k g hg (by omega) (by decide) (by decide) (by decide) (by decide)
  have hm : modI v l = some (v % l) := modI_ok (by omega)
  refine ⟨v % l, g2, ?_, Int.emod_nonneg v (by omega), Int.emod_lt_of_pos v (by omega), hg2⟩
  have h2 : (digC 1000000000) = (sSet 2 (eOp addD (eOp mulD (eVar 2) (eC (.int 1000000000))) (eCall 2 F__law_draw (aCons (eVar 0) (aCons (eC (.int 1000000000)) aNil))))) := rfl
  rw [h2] at e2
  simp [F__law_below, bodyF, entry, m__law_below, e2, hm]
theorem ixF_lst {l : List D} {j : Nat} {v : D} (h : l[j]? = some v) : ixF (.lst l) (.int (j : Nat)) g = .ok v g := by
  have hk : j < l.length := (List.getElem?_eq_some_iff.mp h).1
  have e : atI l (j : Int) = some v := by
    unfold atI ixN
    rw [if_pos (by omega), if_pos (by omega)]
    simpa using h
  show op (atI _ _) g = _
  rw [e]
  rfl
theorem F__law_of_ok (k : Nat) (l : List D) (hg : Gk k g) (hk : k ≤ 10 ^ 7) (hl : 0 < l.length) (hl2 : l.length ≤ 10 ^ 6) : ∃ v g', F__law_of [.hdl, .lst l] g = .ok v g' ∧ v ∈ l ∧ Gk (k + 1) g' := by
  obtain ⟨r, g1, e1, r0, r1, hg1⟩ := F__law_draw_ok k (l.length : Int) hg (by omega) (by omega) (by omega)
  obtain ⟨j, rfl⟩ : ∃ j : Nat, r = (j : Int) := ⟨r.toNat, by omega⟩
  have hj : j < l.length := by omega
  have hx := ixF_lst (g := g1) (List.getElem?_eq_getElem hj)
  refine ⟨l[j], g1, ?_, List.getElem_mem hj, hg1⟩
  simp [F__law_of, bodyF, entry, m__law_of, e1, hx]
/-! ### a drawn row -/
theorem draws_comp (M : Int) (hM : 1 ≤ M) (hM2 : M ≤ 10 ^ 9) (s2 s3 s4 s5 : Sl) : ∀ (m : Nat) (lo : Int) (k : Nat) (g : G), Gk k g → k + m ≤ 10 ^ 8 →
    ∃ (l : List Int) (g' : G), compF (bOne (bName 6)) tmYes (eCall 2 F__law_draw (aCons (eVar 0) (aCons (eVar 1) aNil))) [.im .hdl, .im (.int M), s2, s3, s4, s5, .no] (rgD lo 1 m) g = .ok (l.map D.int) g' ∧ l.length = m ∧ (∀ x ∈ l, 0 ≤ x ∧ x < M) ∧ Gk (k + m) g'
  | 0, lo, k, g, hg, _ => ⟨[], g, rfl, rfl, fun x hx => (by cases hx), hg⟩
  | m + 1, lo, k, g, hg, hk => by
    obtain ⟨r, g1, e1, r0, r1, hg1⟩ := F__law_draw_ok k M hg (by omega) hM (by omega)
    obtain ⟨l, g2, e2, hl, hb, hg2⟩ := draws_comp M hM hM2 s2 s3 s4 s5 m (lo + 1) (k + 1) g1 hg1 (by omega)
    refine ⟨r :: l, g2, ?_, by rw [List.length_cons, hl], fun x hx => ?_, by rw [show k + (m + 1) = k + 1 + m by omega]; exact hg2⟩
    · rw [show rgD lo 1 (m + 1) = .one (.int lo) :: rgD (lo + 1) 1 m from rfl, comp_cons]
      simp [e1, e2]
    · rcases List.mem_cons.mp hx with q | q
      · subst q; exact ⟨r0, r1⟩
      · exact hb x q
abbrev wideB : Ms := (sSeq (sSet 5 (eOp addD (eC (.int 1)) (eCall 2 F__law_draw (aCons (eVar 0) (aCons (eIf (asB (eOp eqF (eCall 2 F__law_draw (aCons (eVar 0) (aCons (eC (.int 6)) aNil))) (eC (.int 0)))) (eC (.int 40)) (eC (.int 6))) aNil))))) (sApp 3 (eTup (aCons (eArgs tupF (aCons (eLst (eComp (yR1 (aCons (eVar 5) aNil)) [6] (bOne (bName 6)) tmYes (eCall 2 F__law_draw (aCons (eVar 0) (aCons (eVar 1) aNil))))) aNil)) (aCons (eCall 1 F__law_times (aCons (eVar 0) aNil)) aNil)))))
theorem wide_loop (M : Int) (hM : 1 ≤ M) (hM2 : M ≤ 4) (d2 : D) : ∀ (m : Nat) (lo : Int) (p : Row) (k : Nat) (g : G), Gk k g → k + 100 * m ≤ 10 ^ 6 → Bks p → p.length + m ≤ 1000 →
    ∃ (q : Row) (g' : G), loopF (bOne (bName 4)) [4, 5] wideB (rgD lo 1 m) [.im .hdl, .im (.int M), .im d2, .ow (p.map blkD), .no, .no, .no] g = .ok (.nx [.im .hdl, .im (.int M), .im d2, .ow (q.map blkD), .no, .no, .no]) g' ∧ Bks q ∧ q.length = p.length + m ∧ Gk (k + 100 * m) g'
  | 0, lo, p, k, g, hg, _, hp, _ => ⟨p, g, rfl, hp, rfl, hg⟩
  | m + 1, lo, p, k, g, hg, hk, hp, hl => by
    obtain ⟨r, g1, e1, r0, r1, hg1⟩ := F__law_draw_ok k 6 hg (by omega) (by decide) (by decide)
    obtain ⟨c, hc, hc1, hc2⟩ : ∃ c : Int, c = (if r = 0 then 40 else 6) ∧ 1 ≤ c ∧ c ≤ 40 := by
      refine ⟨_, rfl, ?_, ?_⟩ <;> split <;> decide
    obtain ⟨s, g2, e2, s0, s1, hg2⟩ := F__law_draw_ok (k + 1) c hg1 (by omega) hc1 (by omega)
    obtain ⟨sz, hsz⟩ : ∃ sz : Nat, 1 + s = (sz : Int) := ⟨(1 + s).toNat, by omega⟩
    obtain ⟨l, g3, e3, hll, hlb, hg3⟩ := draws_comp M hM (by omega) (.im d2) (.ow (p.map blkD)) (.im (.int lo)) (.im (.int sz)) sz 0 (k + 2) g2 hg2 (by omega)
    obtain ⟨t, g4, e4, t0, t1, hg4⟩ := F__law_times_ok (k + 2 + sz) hg3 (by omega)
    have hb : Bk (l, t) := ⟨by show 1 ≤ l.length; omega, by show l.length ≤ 60; omega, fun x hx => by have := hlb x hx; omega, t0, t1⟩
    have hp' : Bks (p ++ [(l, t)]) := fun x hx => by
      rcases List.mem_append.mp hx with q | q
      · exact hp x q
      · rw [List.mem_singleton] at q
        subst q
        exact hb
    obtain ⟨q, g5, e5, hq, hql, hg5⟩ := wide_loop M hM hM2 d2 m (lo + 1) (p ++ [(l, t)]) (k + 100) g4 (hg4.mono (by omega)) (by omega) hp' (by rw [List.length_append, List.length_singleton]; omega)
    refine ⟨q, g5, ?_, hq, by rw [hql, List.length_append, List.length_singleton]; omega, hg5.mono (by omega)⟩
    have hss : smallI (sz : Int) = true := small_lit _ (by omega)
    have hpl : p.length < 1000000 := by omega
    rw [show rgD lo 1 (m + 1) = .one (.int lo) :: rgD (lo + 1) 1 m from rfl, loop_step (ρ1 := [.im .hdl, .im (.int M), .im d2, .ow (p.map blkD), .im (.int lo), .no, .no]) (by simp)]
    rw [List.map_append] at e5
    have hrl : (rgD 0 1 sz).length ≤ 1000000 := by rw [rgD_length]; omega
    by_cases hr : r = 0
    · subst hr
      rw [if_pos rfl] at hc
      subst hc
      simp [e1, e2, hsz, hss, hrl, e3, e4, hpl]
      simp [blkD, marksD] at e5
      simp [e5]
    · rw [if_neg hr] at hc
      subst hc
      simp [e1, hr, e2, hsz, hss, hrl, e3, e4, hpl]
      simp [blkD, marksD] at e5
      simp [e5]
theorem F__law_wide_row_ok (k : Nat) (M : Int) (hg : Gk k g) (hk : k ≤ 10 ^ 4) (hM : 1 ≤ M) (hM2 : M ≤ 4) : ∃ (r : Row) (g' : G), F__law_wide_row [.hdl, .int M, .int 5] g = .ok (rowD r) g' ∧ Rk r ∧ 1 ≤ r.length ∧ r.length ≤ 5 ∧ Gk (k + 1000) g' := by
  obtain ⟨s, g1, e1, s0, s1, hg1⟩ := F__law_draw_ok k 5 hg (by omega) (by decide) (by decide)
  obtain ⟨m, hm⟩ : ∃ m : Nat, 1 + s = (m : Int) := ⟨(1 + s).toNat, by omega⟩
  obtain ⟨r, g2, e2, hr, hl, hg2⟩ := wide_loop M hM hM2 (.int 5) m 0 [] (k + 1) g1 hg1 (by omega) (fun x hx => by cases hx) (by simp; omega)
  rw [List.length_nil, Nat.zero_add] at hl
  refine ⟨r, g2, ?_, ⟨by omega, hr⟩, by omega, by omega, hg2.mono (by omega)⟩
  have hss : smallI (m : Int) = true := small_lit _ (by omega)
  rw [List.map_nil] at e2
  simp [F__law_wide_row, bodyF, entry, m__law_wide_row, e1, hm, hss, e2, rowD]
end Wk
set_option linter.all false
set_option maxRecDepth 100000
set_option maxHeartbeats 4000000
namespace Wk
open PySem L2 Dl Rw
variable {g : G}
/-! ### the law's own helpers -/
theorem rep_at {t p : Nat} {l : List Int} (h : p < t * l.length) : (rep t l)[p]? = l[p % l.length]? := by
  have hl : 0 < l.length := by
    by_cases z : l.length = 0
    · rw [z] at h; omega
    · omega
  have hq : p / l.length < t := (Nat.div_lt_iff_lt_mul hl).mpr h
  obtain ⟨d, hd⟩ : ∃ d, t = p / l.length + (d + 1) := ⟨t - p / l.length - 1, by omega⟩
  have e := Nat.div_add_mod p l.length
  rw [Nat.mul_comm] at e
  have hr := Nat.mod_lt p hl
  conv => lhs; rw [hd]
  rw [rep_add, rep_succ, List.getElem?_append_right (by rw [rep_length]; omega), rep_length]
  have e2 : p - p / l.length * l.length = p % l.length := by omega
  rw [e2, List.getElem?_append_left hr]
abbrev markB : Ms := (sSeq (sIf (asB (eOp ltF (eVar 1) (eOp mulD (eArgs lenF (aCons (eVar 2) aNil)) (eVar 3)))) (sRet (eOp ixF (eVar 2) (eOp (arI modI) (eArgs intF (aCons (eVar 1) aNil)) (eArgs lenF (aCons (eVar 2) aNil))))) sNil) (sSet 1 (eOp (arI subI) (eVar 1) (eOp mulD (eArgs lenF (aCons (eVar 2) aNil)) (eVar 3)))))
theorem mark_loop (d0 : D) : ∀ (r : Row) (p : Nat) (m : Int), Bks r → (wd r)[p]? = some m → loopF (bOne (bTup 2 (bCons (bName 2) (bCons (bName 3) bNil)))) [2, 3] markB (r.map (Yd.one ∘ blkD)) [.im d0, .im (.int p), .no, .no] g = .ok (.rt (.int m)) g
  | [], p, m, _, h => by simp [wd_nil] at h
  | x :: r, p, m, h, hm => by
    have hx := h x List.mem_cons_self
    have hr : Bks r := fun y hy => h y (List.mem_cons_of_mem _ hy)
    have hms := mul_size hx
    have hn : 0 < x.1.length := by have := hx.one; omega
    rw [List.map_cons, loop_step (ρ1 := [.im d0, .im (.int p), .im (marksD x.1), .im (.int x.2)]) (by simp [blkD])]
    rw [wd_cons] at hm
    by_cases c : p < bsz x
    · have c' : (p : Int) < ((bsz x : Nat) : Int) := by omega
      rw [List.getElem?_append_left (by rw [bw_len]; exact c)] at hm
      have hm' : (rep x.2.toNat x.1)[p]? = some m := hm
      rw [rep_at c] at hm'
      have hd : modI (p : Int) (x.1.length : Int) = some ((p % x.1.length : Nat) : Int) := modI_nat hn
      have hix : ixF (.tup (x.1.map D.int)) (.int ((p % x.1.length : Nat) : Int)) g = .ok (.int m) g := by
        show op (atI (x.1.map D.int) _) g = _
        rw [atI_nat2 (d := D.int m) (by rw [List.getElem?_map, hm']; rfl)]
        rfl
      generalize p % x.1.length = j at *
      simp [marksD, hms, c', hd, hix]
    · have c' : ¬ (p : Int) < ((bsz x : Nat) : Int) := by omega
      rw [List.getElem?_append_right (by rw [bw_len]; omega), bw_len] at hm
      have hs : (p : Int) - ((bsz x : Nat) : Int) = ((p - bsz x : Nat) : Int) := by omega
      have ih := mark_loop d0 r (p - bsz x) m hr hm
      generalize p - bsz x = q at *
      simp [marksD, hms, c', hs, ih]
theorem F__law_mark_row (r : Row) (p : Nat) (m : Int) (h : Bks r) (hm : (wd r)[p]? = some m) : F__law_mark [rowD r, .int p] g = .ok (.int m) g := by
  have q := mark_loop (g := g) (rowD r) r p m h hm
  simp only [rowD] at q
  simp [F__law_mark, bodyF, entry, m__law_mark, rowD, q]
theorem cst_int (n : Nat) (i : Int) (h0 : 0 ≤ i) (h : i < 10 ^ 60) : cst n (.int i) = some 64 := by
  have e : cst n (.int i) = if i.natAbs < 10 ^ 60 then some 64 else if i.natAbs.log2 < 1920 then some 1930 else none := by cases n <;> rfl
  rw [e, if_pos (by omega)]
theorem like_same (d : D) (c : Nat) (h : cst deep d = some c) (hc : c ≤ 16000000) : F__law_like [d, d] g = .ok (.bl true) g := by
  have r : reprF [d] g = .ok (.str (shD d)) g := by
    show (match cst deep d with
      | some c => if c ≤ 16000000 then Re.ok (D.str (shD d)) g else .bad
      | none => .bad) = _
    rw [h]
    dsimp only
    rw [if_pos hc]
  have q : eqF (.str (shD d)) (.str (shD d)) g = .ok (.bl true) g := by
    show Re.ok (D.bl (eqD (.str (shD d)) (.str (shD d)))) g = _
    rw [eqD_str, beq_self_eq_true]
  simp [F__law_like, bodyF, entry, m__law_like, r, q]
/-! ### the places that are drawn -/
abbrev borB : Ms := (sApp 1 (eOp addD (eOp ixF (eBor 1) (eUn negD (eC (.int 1)))) (eOp mulD (eArgs lenF (aCons (eVar 2) aNil)) (eVar 3))))
theorem last_ix {l : List Int} {v : Int} : ixF (.lst ((l ++ [v]).map D.int)) (.int (-1)) g = .ok (.int v) g := by
  have e : atI ((l ++ [v]).map D.int) (-1) = some (.int v) := by
    unfold atI ixN
    rw [if_neg (by decide), List.length_map, List.length_append, List.length_singleton, if_pos (by omega)]
    have : ((-1 : Int) + ((l.length + 1 : Nat) : Int)).toNat = l.length := by omega
    rw [this]
    simp
  show op (atI _ _) g = _
  rw [e]
  rfl
theorem bor_loop (d0 : D) : ∀ (r : Row) (l : List Int) (v S : Int), Bks r → l.length + r.length ≤ 1000 → 0 ≤ v → v + (wd r).length ≤ S → (∀ x ∈ l, 0 ≤ x ∧ x ≤ S) →
    ∃ q : List Int, loopF (bOne (bTup 2 (bCons (bName 2) (bCons (bName 3) bNil)))) [2, 3] borB (r.map (Yd.one ∘ blkD)) [.im d0, .ow ((l ++ [v]).map D.int), .no, .no] g = .ok (.nx [.im d0, .ow (q.map D.int), .no, .no]) g ∧ (∀ x ∈ q, 0 ≤ x ∧ x ≤ S) ∧ 0 < q.length ∧ q.length ≤ 2000
  | [], l, v, S, _, hl, h0, h1, hb => ⟨l ++ [v], rfl, fun x hx => by
      rcases List.mem_append.mp hx with z | z
      · exact hb x z
      · rw [List.mem_singleton] at z; subst z; simp [wd_nil] at h1; omega, by simp, by simp at hl ⊢; omega⟩
  | x :: r, l, v, S, h, hl, h0, h1, hb => by
    have hx := h x List.mem_cons_self
    have hr : Bks r := fun y hy => h y (List.mem_cons_of_mem _ hy)
    have hms := mul_size hx
    have hw : (wd (x :: r)).length = bsz x + (wd r).length := by rw [wd_cons, List.length_append, bw_len]
    rw [List.length_cons] at hl
    obtain ⟨q, e, hq, hq1, hq2⟩ := bor_loop d0 r (l ++ [v]) (v + ((bsz x : Nat) : Int)) S hr (by rw [List.length_append, List.length_singleton]; omega) (by omega) (by omega) (fun y hy => by
      rcases List.mem_append.mp hy with z | z
      · exact hb y z
      · rw [List.mem_singleton] at z; subst z; omega)
    refine ⟨q, ?_, hq, hq1, hq2⟩
    have hll : ((l ++ [v]).map D.int).length < 1000000 := by rw [List.length_map, List.length_append, List.length_singleton]; omega
    have li := last_ix (g := g) (l := l) (v := v)
    rw [List.map_append] at e
    rw [List.map_cons, loop_step (ρ1 := [.im d0, .ow ((l ++ [v]).map D.int), .im (marksD x.1), .im (.int x.2)]) (by simp [blkD])]
    generalize (l ++ [v]).map D.int = L at *
    simp [marksD, hms, li, hll]
    simpa using e
theorem F__law_borders_row (r : Row) (h : Rk r) : ∃ q : List Int, F__law_borders [rowD r] g = .ok (.lst (q.map D.int)) g ∧ (∀ x ∈ q, 0 ≤ x ∧ x ≤ (wd r).length) ∧ 0 < q.length ∧ q.length ≤ 2000 := by
  have hf := h.few
  obtain ⟨q, e, h1, h2, h3⟩ := bor_loop (g := g) (rowD r) r [] 0 (wd r).length h.bk (by simp; omega) (by decide) (by omega) (fun x hx => by cases hx)
  refine ⟨q, ?_, h1, h2, h3⟩
  simp only [rowD, List.nil_append, List.map_cons, List.map_nil] at e
  simp [F__law_borders, bodyF, entry, m__law_borders, rowD, e]
theorem F__law_spot_row (r : Row) (k : Nat) (h : Rk r) (hg : Gk k g) (hk : k ≤ 10 ^ 6) (h1 : 1 ≤ (wd r).length) : ∃ (p : Nat) (g' : G), F__law_spot [.hdl, rowD r] g = .ok (.int p) g' ∧ p < (wd r).length ∧ Gk (k + 10) g' := by
  have hf := h.few
  have sm : ∀ b ∈ r, Sm b := fun b hb => (h.bk b hb).sm
  have hs := F__law_size_row (g := g) r sm (by omega)
  obtain ⟨a, g1, e1, a0, a1, hg1⟩ := F__law_draw_ok k 3 hg (by omega) (by decide) (by decide)
  by_cases ha : a = 0
  · obtain ⟨v, g2, e2, v0, v1, hg2⟩ := F__law_below_ok (k + 1) ((wd r).length : Int) hg1 (by omega) (by omega)
    obtain ⟨p, rfl⟩ : ∃ p : Nat, v = (p : Int) := ⟨v.toNat, by omega⟩
    subst ha
    exact ⟨p, g2, by simp [F__law_spot, bodyF, entry, m__law_spot, hs, e1, e2], by omega, hg2.mono (by omega)⟩
  · obtain ⟨q, e2, hq, hq0, hq1⟩ := F__law_borders_row (g := g1) r h
    obtain ⟨v, g3, e3, hv, hg3⟩ := F__law_of_ok (k + 1) (q.map D.int) hg1 (by omega) (by rw [List.length_map]; exact hq0) (by rw [List.length_map]; omega)
    rw [List.mem_map] at hv
    obtain ⟨b, hb, rfl⟩ := hv
    obtain ⟨c, g4, e4, c0, c1, hg4⟩ := F__law_draw_ok (k + 1 + 1) 15 hg3 (by omega) (by decide) (by decide)
    obtain ⟨p, hp⟩ : ∃ p : Nat, min (max (b + c - 7) 0) (((wd r).length : Int) - 1) = (p : Int) := ⟨(min (max (b + c - 7) 0) (((wd r).length : Int) - 1)).toNat, by omega⟩
    exact ⟨p, g4, by simp [F__law_spot, bodyF, entry, m__law_spot, hs, e1, ha, e2, e3, e4, hp], by omega, hg4.mono (by omega)⟩
end Wk
set_option linter.all false
set_option maxRecDepth 100000
set_option maxHeartbeats 4000000
namespace Wk
open PySem L2 Dl Rw
variable {g : G}
/-! ### rows asked -/
abbrev thereB : Ms := (sSeq (sSet 4 (eOp mulD (eArgs lenF (aCons (eVar 2) aNil)) (eVar 3))) (sSeq (sIf (asB (eOp ltF (eVar 1) (eVar 4))) (sRet (eOp ixF (eVar 2) (eOp (arI modI) (eVar 1) (eArgs lenF (aCons (eVar 2) aNil))))) sNil) (sAug 1 (arI subI) (eVar 4))))
theorem there_loop (d0 : D) : ∀ (r : Row) (p : Nat) (m : Int), Bks r → (wd r)[p]? = some m → loopF (bOne (bTup 2 (bCons (bName 2) (bCons (bName 3) bNil)))) [2, 3, 4] thereB (r.map (Yd.one ∘ blkD)) [.im d0, .im (.int p), .no, .no, .no] g = .ok (.rt (.int m)) g
  | [], p, m, _, h => by simp [wd_nil] at h
  | x :: r, p, m, h, hm => by
    have hx := h x List.mem_cons_self
    have hr : Bks r := fun y hy => h y (List.mem_cons_of_mem _ hy)
    have hms := mul_size hx
    have hn : 0 < x.1.length := by have := hx.one; omega
    rw [List.map_cons, loop_step (ρ1 := [.im d0, .im (.int p), .im (marksD x.1), .im (.int x.2), .no]) (by simp [blkD])]
    rw [wd_cons] at hm
    by_cases c : p < bsz x
    · have c' : (p : Int) < ((bsz x : Nat) : Int) := by omega
      rw [List.getElem?_append_left (by rw [bw_len]; exact c)] at hm
      have hm' : (rep x.2.toNat x.1)[p]? = some m := hm
      rw [rep_at c] at hm'
      have hd : modI (p : Int) (x.1.length : Int) = some ((p % x.1.length : Nat) : Int) := modI_nat hn
      have hix : ixF (.tup (x.1.map D.int)) (.int ((p % x.1.length : Nat) : Int)) g = .ok (.int m) g := by
        show op (atI (x.1.map D.int) _) g = _
        rw [atI_nat2 (d := D.int m) (by rw [List.getElem?_map, hm']; rfl)]
        rfl
      generalize p % x.1.length = j at *
      simp [marksD, hms, c', hd, hix]
    · have c' : ¬ (p : Int) < ((bsz x : Nat) : Int) := by omega
      rw [List.getElem?_append_right (by rw [bw_len]; omega), bw_len] at hm
      have hs : (p : Int) - ((bsz x : Nat) : Int) = ((p - bsz x : Nat) : Int) := by omega
      have ih := there_loop d0 r (p - bsz x) m hr hm
      generalize p - bsz x = q at *
      simp [marksD, hms, c', hs, ih]
theorem F_mark_there_row (r : Row) (p : Nat) (m : Int) (h : Bks r) (hm : (wd r)[p]? = some m) : F_mark_there [rowD r, .int p] g = .ok (.int m) g := by
  have q := there_loop (g := g) (rowD r) r p m h hm
  simp only [rowD] at q
  simp [F_mark_there, bodyF, entry, m_mark_there, rowD, q]
/-! ### the marks of a short row -/
def Ft (x : List Int × Int) : Prop := 0 ≤ x.2 ∧ (x.2 = 1 ∨ 1 ≤ x.1.length)
theorem Bk.ft {x : List Int × Int} (h : Bk x) : Ft x := ⟨by have := h.pos; omega, .inr h.one⟩
theorem rep_D (t : Nat) (l : List Int) : (List.replicate t (l.map D.int)).flatten = (rep t l).map D.int := by
  unfold rep
  rw [List.map_flatten, List.map_replicate]
theorem repOk_of {x : List Int × Int} (h : Ft x) (hl : bsz x ≤ 100000) : repOk x.1.length x.2 = true := by
  obtain ⟨h0, h1⟩ := h
  unfold bsz at hl
  have ht : x.2 ≤ 100000 := by
    rcases h1 with z | z
    · omega
    · have := Nat.mul_le_mul_left x.2.toNat z
      omega
  unfold repOk
  refine decide_eq_true ⟨by omega, by omega, ?_⟩
  rw [Nat.mul_comm]
  show x.2.toNat * x.1.length ≤ 1000000
  omega
abbrev marksB : Ms := (sExt 1 (eLst (eOp repL (eLst (eArgs lstF (aCons (eVar 2) aNil))) (eVar 3))))
theorem marks_loop (d0 : D) : ∀ (r : Row) (acc : List Int), (∀ x ∈ r, Ft x) → acc.length + (wd r).length ≤ 100000 →
    loopF (bOne (bTup 2 (bCons (bName 2) (bCons (bName 3) bNil)))) [2, 3] marksB (r.map (Yd.one ∘ blkD)) [.im d0, .ow (acc.map D.int), .no, .no] g = .ok (.nx [.im d0, .ow ((acc ++ wd r).map D.int), .no, .no]) g
  | [], acc, _, _ => by rw [wd_nil, List.append_nil]; rfl
  | x :: r, acc, h, hl => by
    rw [wd_cons, List.length_append, bw_len] at hl
    have hr := repOk_of (h x List.mem_cons_self) (by omega)
    have ih := marks_loop d0 r (acc ++ bw x) (fun y hy => h y (List.mem_cons_of_mem _ hy)) (by rw [List.length_append, bw_len]; omega)
    have e : repL (.lst (x.1.map D.int)) (.int x.2) g = .ok ((bw x).map D.int) g := by
      show (if repOk (x.1.map D.int).length x.2 = true then Re.ok (List.replicate x.2.toNat (x.1.map D.int)).flatten g else .bad) = _
      rw [List.length_map, if_pos hr, rep_D]
      rfl
    have hl2 : acc.length + (bw x).length ≤ 1000000 := by rw [bw_len]; omega
    rw [List.map_cons, loop_step (ρ1 := [.im d0, .ow (acc.map D.int), .im (marksD x.1), .im (.int x.2)]) (by simp [blkD])]
    rw [List.map_append] at ih
    have l1 : lstF [.tup (x.1.map D.int)] g = .ok (x.1.map D.int) g := rfl
    rw [wd_cons]
    simp [marksD, l1, e, hl2]
    rw [ih]
    simp
abbrev flatB : Ms := (sSet 1 (eOp addD (eVar 1) (eLst (eOp repL (eLst (eArgs lstF (aCons (eVar 2) aNil))) (eVar 3)))))
theorem flat_loop (d0 : D) : ∀ (r : Row) (acc : List Int), (∀ x ∈ r, Ft x) → acc.length + (wd r).length ≤ 100000 →
    loopF (bOne (bTup 2 (bCons (bName 2) (bCons (bName 3) bNil)))) [2, 3] flatB (r.map (Yd.one ∘ blkD)) [.im d0, .im (.lst (acc.map D.int)), .no, .no] g = .ok (.nx [.im d0, .im (.lst ((acc ++ wd r).map D.int)), .no, .no]) g
  | [], acc, _, _ => by rw [wd_nil, List.append_nil]; rfl
  | x :: r, acc, h, hl => by
    rw [wd_cons, List.length_append, bw_len] at hl
    have hr := repOk_of (h x List.mem_cons_self) (by omega)
    have ih := flat_loop d0 r (acc ++ bw x) (fun y hy => h y (List.mem_cons_of_mem _ hy)) (by rw [List.length_append, bw_len]; omega)
    have e : repL (.lst (x.1.map D.int)) (.int x.2) g = .ok ((bw x).map D.int) g := by
      show (if repOk (x.1.map D.int).length x.2 = true then Re.ok (List.replicate x.2.toNat (x.1.map D.int)).flatten g else .bad) = _
      rw [List.length_map, if_pos hr, rep_D]
      rfl
    have hl2 : acc.length + (bw x).length ≤ 1000000 := by rw [bw_len]; omega
    rw [List.map_cons, loop_step (ρ1 := [.im d0, .im (.lst (acc.map D.int)), .im (marksD x.1), .im (.int x.2)]) (by simp [blkD])]
    rw [List.map_append] at ih
    have l1 : lstF [.tup (x.1.map D.int)] g = .ok (x.1.map D.int) g := rfl
    rw [wd_cons]
    simp [marksD, l1, e, hl2]
    rw [ih]
    simp
theorem F__law_flat_row (r : Row) (h : ∀ x ∈ r, Ft x) (hl : (wd r).length ≤ 100000) : F__law_flat [rowD r] g = .ok (.lst ((wd r).map D.int)) g := by
  have q := flat_loop (g := g) (rowD r) r [] h (by simpa using hl)
  simp only [rowD, List.map_nil, List.nil_append] at q
  simp [F__law_flat, bodyF, entry, m__law_flat, rowD, q]
theorem pob_ft (l : List Int) (b e : Nat) (hl : 0 < l.length) : ∀ x ∈ pob l b e, Ft x := by
  have one : ∀ (q : List Int), Ft (q, 1) := fun q => ⟨(by decide : (0 : Int) ≤ 1), .inl rfl⟩
  intro x hx
  unfold pob pobG at hx
  split at hx
  · rw [List.mem_singleton] at hx
    subst hx
    exact one _
  · rw [List.mem_append, List.mem_append] at hx
    rcases hx with (hx | hx) | hx
    · split at hx
      · rw [List.mem_singleton] at hx; subst hx; exact one _
      · cases hx
    · generalize (b / l.length + if 0 < b % l.length then 1 else 0) = f at hx
      unfold fullB at hx
      split at hx
      · rw [List.mem_singleton] at hx
        subst hx
        exact ⟨Int.natCast_nonneg _, .inr hl⟩
      · cases hx
    · split at hx
      · rw [List.mem_singleton] at hx; subst hx; exact one _
      · cases hx
theorem pof_ft (b e : Nat) : ∀ (r : Row) (A : Nat), Bks r → ∀ y ∈ pof b e r A, Ft y
  | [], _, _, y, hy => by cases hy
  | x :: r, A, h, y, hy => by
    unfold pof at hy
    rcases List.mem_append.mp hy with q | q
    · split at q
      · exact pob_ft _ _ _ (by have := (h x List.mem_cons_self).one; omega) y q
      · cases q
    · exact pof_ft b e r _ (fun z hz => h z (List.mem_cons_of_mem _ hz)) y q
@[simp] theorem s_Raise (c : Str) (fs : List Str) (as : Me (List D)) (ρ : Dl.Env) (g : G) : sRaise c fs as ρ g = (as ρ g).bindS ρ fun l g => if l.length = fs.length ∧ l.length ≤ 1000 then .ex c (fs.zip l).reverse ρ g else .bad := rfl
@[simp] theorem thn_ex (c : Str) (fs : List (Str × D)) (r : Dl.Env) (g : G) (h : Ms) : (Re.ex c fs r g).thn h = .ex c fs r g := rfl
@[simp] theorem turn_ex (c : Str) (fs : List (Str × D)) (r : Dl.Env) (g : G) (ks : List Nat) (h : Ms) : (Re.ex c fs r g).turn ks h = .ex c fs r g := rfl
@[simp] theorem fin_ex (c : Str) (fs : List (Str × D)) (r : Dl.Env) (g : G) : fin (.ex c fs r g) = .ex c fs [] g := rfl
abbrev greatD : D := .tup [.str "great", .int 300]
end Wk
set_option linter.all false
set_option maxRecDepth 100000
set_option maxHeartbeats 4000000
namespace Wk
open PySem L2 Dl Rw
variable {g : G}
/-! ### words -/
abbrev wordB : Ms := (sIf (tNotM (eTru (eCall 3 F_is_within (aCons (eVar 2) (aCons (eC (.int 0)) (aCons (eOp (arI subI) (eVar 1) (eC (.int 1))) aNil)))))) (sRaise "BadMark" ["mark"] (aCons (eVar 2) aNil)) sNil)
theorem word_loop (d0 : D) (S : Int) : ∀ (w : List Int), (∀ m ∈ w, 0 ≤ m ∧ m < S) → loopF (bOne (bName 2)) [2] wordB (w.map (Yd.one ∘ D.int)) [.im d0, .im (.int S), .no] g = .ok (.nx [.im d0, .im (.int S), .no]) g
  | [], _ => rfl
  | m :: w, h => by
    have ih := word_loop d0 S w fun x hx => h x (List.mem_cons_of_mem _ hx)
    have hm := h m List.mem_cons_self
    have c : m ≤ S - 1 := by omega
    rw [List.map_cons, loop_step (ρ1 := [.im d0, .im (.int S), .im (.int m)]) (by simp)]
    simp [hm.1, c, ih]
theorem word_loop_bad (d0 : D) (S : Int) (m : Int) (hm : S ≤ m) : ∀ (w v : List Int), (∀ m ∈ w, 0 ≤ m ∧ m < S) → loopF (bOne (bName 2)) [2] wordB ((w ++ m :: v).map (Yd.one ∘ D.int)) [.im d0, .im (.int S), .no] g = .ex "BadMark" [("mark", .int m)] [.im d0, .im (.int S), .im (.int m)] g
  | [], v, _ => by
    have c : ¬ m ≤ S - 1 := by omega
    rw [List.nil_append, List.map_cons, loop_step (ρ1 := [.im d0, .im (.int S), .im (.int m)]) (by simp)]
    simp [c]
  | x :: w, v, h => by
    have ih := word_loop_bad d0 S m hm w v fun x hx => h x (List.mem_cons_of_mem _ hx)
    have hx := h x List.mem_cons_self
    have c : x ≤ S - 1 := by omega
    rw [List.cons_append, List.map_cons, loop_step (ρ1 := [.im d0, .im (.int S), .im (.int x)]) (by simp)]
    simp only [List.map_append, List.map_cons] at ih
    simp [hx.1, c]
    simpa using ih
/-! ### a word in plain blocks -/
def plB (w : List Int) (i : Nat) : List Int × Int := ((w.take (60 * i + 60)).drop (60 * i), 1)
def pl (w : List Int) : Row := (List.range ((w.length + 59) / 60)).map (plB w)
theorem step60 (n : Nat) (h : n ≤ 3600) : stepN 0 (n : Int) 60 = some ((n + 59) / 60) := by
  have hr : Builtin.Range.rangeSize 0 (n : Int) 60 = (((n + 59) / 60 : Nat) : Int) := by
    unfold Builtin.Range.rangeSize
    simp only [show ((60 : Int) > 0) from by decide, if_true]
    split <;> omega
  have fl : ∀ i : Int, -1000000 ≤ i → i ≤ 1000000 → Builtin.Range.rangeFitsLong i = true := fun i h0 h1 => by
    unfold Builtin.Range.rangeFitsLong
    rw [Bool.and_eq_true]
    exact ⟨decide_eq_true (by omega), decide_eq_true (by omega)⟩
  have hs : Builtin.Range.small 0 (n : Int) 60 = true := by
    unfold Builtin.Range.small
    rw [hr, fl 0 (by decide) (by decide), fl (n : Int) (by omega) (by omega), fl 60 (by decide) (by decide), fl (((n + 59) / 60 : Nat) : Int) (by omega) (by omega), if_pos (by decide), fl _ (by omega) (by omega), Bool.or_true]
    rfl
  unfold stepN
  rw [small_lit 0 (by decide), small_lit (n : Int) (by omega)]
  rw [if_pos (show (true && true) = true from rfl), if_neg (by decide), if_pos ⟨by decide, by decide, hs⟩, hr]
  rfl
theorem comp60 {b : Yd → Dl.Env → Option Dl.Env} {tm : Me Bool} {el : Me D} {ρ : Dl.Env} (F : Nat → D) : ∀ (n : Nat) (k : Nat), (∀ i : Nat, i < n → ∃ ρ1, b (.one (.int ((60 * (k + i) : Nat) : Int))) ρ = some ρ1 ∧ tm ρ1 g = .ok true g ∧ el ρ1 g = .ok (F (k + i)) g) →
    compF b tm el ρ (rgD ((60 * k : Nat) : Int) 60 n) g = .ok ((List.range n).map fun i => F (k + i)) g
  | 0, _, _ => rfl
  | n + 1, k, h => by
    obtain ⟨ρ1, h1, h2, h3⟩ := h 0 (by omega)
    rw [Nat.add_zero] at h1 h3
    have ih := comp60 (b := b) (tm := tm) (el := el) (ρ := ρ) F n (k + 1) fun i hi => by
      have z := h (i + 1) (by omega)
      rw [show k + (i + 1) = k + 1 + i by omega] at z
      exact z
    rw [show rgD ((60 * k : Nat) : Int) 60 (n + 1) = .one (.int ((60 * k : Nat) : Int)) :: rgD (((60 * k : Nat) : Int) + 60) 60 n from rfl, comp_step h1 h2 h3]
    rw [show ((60 * k : Nat) : Int) + 60 = ((60 * (k + 1) : Nat) : Int) by omega, ih, List.range_succ_eq_map, List.map_cons, List.map_map, bind_ok]
    congr 2
    apply List.map_congr_left
    intro i _
    show F _ = F _
    congr 1
    show k + 1 + i = k + (i + 1)
    omega
theorem sl60 (w : List Int) (i : Nat) : slF (marksD w) (some ((60 * i : Nat) : Int)) (some (((60 * i : Nat) : Int) + 60)) g = .ok (marksD (plB w i).1) g := by
  rw [show ((60 * i : Nat) : Int) + 60 = ((60 * i + 60 : Nat) : Int) by omega]
  show Re.ok (D.tup (cutA (w.map D.int) _ _)) g = _
  rw [cutA_map, cutA_nat]
  rfl
@[simp] theorem e_CallD (n : Nat) (dd : List D) (Φ : List D → G → Re D) (fs : Me (List D)) (ρ : Dl.Env) (g : G) : eCallD n dd Φ fs ρ g = (fs ρ g).bind fun l g => if (l ++ dd).length = n then Φ (l ++ dd) g else .bad := rfl
theorem pl_upto (w : List Int) : ∀ n : Nat, wd ((List.range n).map (plB w)) = w.take (60 * n)
  | 0 => rfl
  | n + 1 => by
    rw [List.range_succ, List.map_append, wd_append, pl_upto w n, List.map_singleton, wd_one, show 60 * (n + 1) = 60 * n + 60 by omega]
    show w.take (60 * n) ++ bw ((w.take (60 * n + 60)).drop (60 * n), 1) = _
    rw [bw_one]
    have e : w.take (60 * n) = (w.take (60 * n + 60)).take (60 * n) := by rw [List.take_take, Nat.min_eq_left (by omega)]
    rw [e, List.take_append_drop]
theorem pl_wd (w : List Int) : wd (pl w) = w := by
  unfold pl
  rw [pl_upto, List.take_of_length_le (by omega)]
theorem pl_rk (w : List Int) (h : w.length ≤ 3600) (hm : ∀ m ∈ w, 0 ≤ m ∧ m < 4) : Rk (pl w) := by
  refine ⟨by unfold pl; rw [List.length_map, List.length_range]; omega, fun x hx => ?_⟩
  unfold pl at hx
  rw [List.mem_map] at hx
  obtain ⟨i, hi, rfl⟩ := hx
  rw [List.mem_range] at hi
  refine ⟨?_, ?_, fun m hmm => ?_, (by decide : (1 : Int) ≤ 1), (by decide : (1 : Int) ≤ 10 ^ 30)⟩
  · show 1 ≤ ((w.take (60 * i + 60)).drop (60 * i)).length
    rw [List.length_drop, List.length_take]
    omega
  · show ((w.take (60 * i + 60)).drop (60 * i)).length ≤ 60
    rw [List.length_drop, List.length_take]
    omega
  · have := hm m (List.mem_of_mem_take (List.mem_of_mem_drop hmm))
    omega
/-! ### drawn marks, a short drawn row -/
theorem drawn {b : Yd → Dl.Env → Option Dl.Env} {tm : Me Bool} {el : Me D} {ρ : Dl.Env} (M : Int) (hs : ∀ (i : Int) (k : Nat) (g : G), Gk k g → k ≤ 10 ^ 7 → ∃ ρ1 v g', b (.one (.int i)) ρ = some ρ1 ∧ tm ρ1 g = .ok true g ∧ el ρ1 g = .ok (.int v) g' ∧ 0 ≤ v ∧ v < M ∧ Gk (k + 1) g') :
    ∀ (m : Nat) (lo : Int) (k : Nat) (g : G), Gk k g → k + m ≤ 10 ^ 7 → ∃ (l : List Int) (g' : G), compF b tm el ρ (rgD lo 1 m) g = .ok (l.map D.int) g' ∧ l.length = m ∧ (∀ x ∈ l, 0 ≤ x ∧ x < M) ∧ Gk (k + m) g'
  | 0, lo, k, g, hg, _ => ⟨[], g, rfl, rfl, fun x hx => (by cases hx), hg⟩
  | m + 1, lo, k, g, hg, hk => by
    obtain ⟨ρ1, v, g1, e1, e2, e3, v0, v1, hg1⟩ := hs lo k g hg (by omega)
    obtain ⟨l, g2, e4, hl, hb, hg2⟩ := drawn M hs m (lo + 1) (k + 1) g1 hg1 (by omega)
    refine ⟨v :: l, g2, ?_, by rw [List.length_cons, hl], fun x hx => ?_, by rw [show k + (m + 1) = k + 1 + m by omega]; exact hg2⟩
    · rw [show rgD lo 1 (m + 1) = .one (.int lo) :: rgD (lo + 1) 1 m from rfl, comp_cons, e1]
      simp [e2, e3, e4]
    · rcases List.mem_cons.mp hx with q | q
      · subst q; exact ⟨v0, v1⟩
      · exact hb x q
theorem F__law_marks_ok (k : Nat) (M L : Int) (hg : Gk k g) (hk : k ≤ 10 ^ 6) (hM : 1 ≤ M) (hM2 : M ≤ 100) (hL : 0 ≤ L) (hL2 : L ≤ 100) : ∃ (l : List Int) (g' : G), F__law_marks [.hdl, .int M, .int L] g = .ok (.lst (l.map D.int)) g' ∧ (l.length : Int) ≤ L ∧ (∀ x ∈ l, 0 ≤ x ∧ x < M) ∧ Gk (k + 200) g' := by
  obtain ⟨s, g1, e1, s0, s1, hg1⟩ := F__law_draw_ok k (L + 1) hg (by omega) (by omega) (by omega)
  obtain ⟨m, rfl⟩ : ∃ m : Nat, s = (m : Int) := ⟨s.toNat, by omega⟩
  obtain ⟨l, g2, e2, hl, hb, hg2⟩ := drawn (b := bOne (bName 3)) (tm := tmYes) (el := eCall 2 F__law_draw (aCons (eVar 0) (aCons (eVar 1) aNil))) (ρ := [.im .hdl, .im (.int M), .im (.int L), .no]) M (fun i k g hg hk => by
    obtain ⟨v, g', e, v0, v1, hg'⟩ := F__law_draw_ok k M hg (by omega) hM (by omega)
    exact ⟨_, v, g', rfl, rfl, by simp [e], v0, v1, hg'⟩) m 0 (k + 1) g1 hg1 (by omega)
  refine ⟨l, g2, ?_, by omega, hb, hg2.mono (by omega)⟩
  have hss : smallI (m : Int) = true := small_lit _ (by omega)
  have hrl : (rgD 0 1 m).length ≤ 1000000 := by rw [rgD_length]; omega
  simp [F__law_marks, bodyF, entry, m__law_marks, e1, hss, hrl, e2]
abbrev rowB : Ms := (sSeq (sSet 4 (eOp addD (eLst (eList (aCons (eCall 2 F__law_draw (aCons (eVar 0) (aCons (eVar 1) aNil))) aNil))) (eCall 3 F__law_marks (aCons (eVar 0) (aCons (eVar 1) (aCons (eC (.int 3)) aNil)))))) (sApp 2 (eTup (aCons (eArgs tupF (aCons (eVar 4) aNil)) (aCons (eOp addD (eC (.int 1)) (eCall 2 F__law_draw (aCons (eVar 0) (aCons (eC (.int 3)) aNil)))) aNil)))))
theorem wd_len_app (p : Row) (x : List Int × Int) : (wd (p ++ [x])).length = (wd p).length + bsz x := by
  rw [wd_append, wd_one, List.length_append, bw_len]
theorem row_loop : ∀ (m : Nat) (lo : Int) (p : Row) (k : Nat) (g : G), Gk k g → k + 300 * m ≤ 10 ^ 6 → Bks p → p.length + m ≤ 1000 →
    ∃ (q : Row) (g' : G), loopF (bOne (bName 3)) [3, 4] rowB (rgD lo 1 m) [.im .hdl, .im (.int 4), .ow (p.map blkD), .no, .no] g = .ok (.nx [.im .hdl, .im (.int 4), .ow (q.map blkD), .no, .no]) g' ∧ Bks q ∧ q.length = p.length + m ∧ (wd q).length ≤ (wd p).length + 12 * m ∧ Gk (k + 300 * m) g'
  | 0, lo, p, k, g, hg, _, hp, _ => ⟨p, g, rfl, hp, rfl, by omega, hg⟩
  | m + 1, lo, p, k, g, hg, hk, hp, hl => by
    obtain ⟨a, g1, e1, a0, a1, hg1⟩ := F__law_draw_ok k 4 hg (by omega) (by decide) (by decide)
    obtain ⟨l, g2, e2, hll, hlb, hg2⟩ := F__law_marks_ok (k + 1) 4 3 hg1 (by omega) (by decide) (by decide) (by decide) (by decide)
    obtain ⟨t, g3, e3, t0, t1, hg3⟩ := F__law_draw_ok (k + 1 + 200) 3 hg2 (by omega) (by decide) (by decide)
    have hb : Bk (a :: l, 1 + t) := ⟨by show 1 ≤ (a :: l).length; simp, by show (a :: l).length ≤ 60; rw [List.length_cons]; omega, fun x hx => by
      rcases List.mem_cons.mp hx with q | q
      · subst q; omega
      · have := hlb x q; omega, by show 1 ≤ 1 + t; omega, by show 1 + t ≤ 10 ^ 30; omega⟩
    have hp' : Bks (p ++ [(a :: l, 1 + t)]) := fun x hx => by
      rcases List.mem_append.mp hx with q | q
      · exact hp x q
      · rw [List.mem_singleton] at q
        subst q
        exact hb
    obtain ⟨q, g5, e5, hq, hql, hqw, hg5⟩ := row_loop m (lo + 1) (p ++ [(a :: l, 1 + t)]) (k + 300) g3 (hg3.mono (by omega)) (by omega) hp' (by rw [List.length_append, List.length_singleton]; omega)
    have hz : bsz (a :: l, 1 + t) ≤ 12 := by
      unfold bsz
      show (1 + t).toNat * (a :: l).length ≤ 12
      have h1 : (1 + t).toNat ≤ 3 := by omega
      have h2 : (a :: l).length ≤ 4 := by rw [List.length_cons]; omega
      exact Nat.mul_le_mul h1 h2
    rw [wd_len_app] at hqw
    refine ⟨q, g5, ?_, hq, by rw [hql, List.length_append, List.length_singleton]; omega, by omega, hg5.mono (by omega)⟩
    have hpl : p.length < 1000000 := by omega
    have hll2 : 1 + l.length ≤ 1000000 := by omega
    rw [show rgD lo 1 (m + 1) = .one (.int lo) :: rgD (lo + 1) 1 m from rfl, loop_step (ρ1 := [.im .hdl, .im (.int 4), .ow (p.map blkD), .im (.int lo), .no]) (by simp)]
    rw [List.map_append] at e5
    simp [e1, e2, e3, hpl, hll2]
    simp [blkD, marksD] at e5
    simp [e5]
theorem F__law_row_ok (k : Nat) (hg : Gk k g) (hk : k ≤ 10 ^ 5) : ∃ (r : Row) (g' : G), F__law_row [.hdl, .int 4] g = .ok (rowD r) g' ∧ Rk r ∧ (wd r).length ≤ 300 ∧ Gk (k + 1000) g' := by
  obtain ⟨s, g1, e1, s0, s1, hg1⟩ := F__law_draw_ok k 4 hg (by omega) (by decide) (by decide)
  obtain ⟨m, rfl⟩ : ∃ m : Nat, s = (m : Int) := ⟨s.toNat, by omega⟩
  obtain ⟨r, g2, e2, hr, hl, hw, hg2⟩ := row_loop m 0 [] (k + 1) g1 hg1 (by omega) (fun x hx => by cases hx) (by simp; omega)
  rw [List.length_nil, Nat.zero_add] at hl
  rw [wd_nil, List.length_nil, Nat.zero_add] at hw
  refine ⟨r, g2, ?_, ⟨by omega, hr⟩, by omega, hg2.mono (by omega)⟩
  have hss : smallI (m : Int) = true := small_lit _ (by omega)
  rw [List.map_nil] at e2
  simp [F__law_row, bodyF, entry, m__law_row, e1, hss, e2, rowD]
end Wk
set_option linter.all false
set_option maxRecDepth 100000
set_option maxHeartbeats 4000000
namespace Wk
open PySem L2 Dl Rw
variable {g : G}
/-! ### how long the texts are -/
theorem sumO_bd (B : Nat) : ∀ (l : List (Option Nat)), (∀ x ∈ l, ∃ c, x = some c ∧ c ≤ B) → ∃ c, sumO l = some c ∧ c ≤ l.length * B
  | [], _ => ⟨0, rfl, by simp⟩
  | x :: l, h => by
    obtain ⟨c, rfl, hc⟩ := h x List.mem_cons_self
    obtain ⟨d, e, hd⟩ := sumO_bd B l fun y hy => h y (List.mem_cons_of_mem _ hy)
    refine ⟨c + d, by show (sumO l).map (c + ·) = _; rw [e]; rfl, ?_⟩
    rw [List.length_cons, Nat.succ_mul]
    omega
theorem cst_tup_bd {n B : Nat} {l : List D} (h : ∀ x ∈ l, ∃ c, cst n x = some c ∧ c ≤ B) : ∃ c, cst (n + 1) (.tup l) = some c ∧ c ≤ l.length * B + (2 * l.length + 3) := by
  obtain ⟨c, e, hc⟩ := sumO_bd B (l.map (cst n)) fun x hx => by
    rw [List.mem_map] at hx
    obtain ⟨y, hy, rfl⟩ := hx
    exact h y hy
  rw [List.length_map] at hc
  exact ⟨c + (2 * l.length + 3), by show (sumO (l.map (cst n))).map _ = _; rw [e]; rfl, by omega⟩
theorem cst_lst_bd {n B : Nat} {l : List D} (h : ∀ x ∈ l, ∃ c, cst n x = some c ∧ c ≤ B) : ∃ c, cst (n + 1) (.lst l) = some c ∧ c ≤ l.length * B + (2 * l.length + 3) := cst_tup_bd h
abbrev CB (n : Nat) (d : D) (B : Nat) : Prop := ∃ c, cst n d = some c ∧ c ≤ B
theorem CB.mono {n : Nat} {d : D} {B B' : Nat} (h : CB n d B) (l : B ≤ B') : CB n d B' := by
  obtain ⟨c, e, hc⟩ := h
  exact ⟨c, e, by omega⟩
theorem int_cb (n : Nat) (i : Int) (h0 : 0 ≤ i) (h : i < 10 ^ 60) : CB n (.int i) 64 := ⟨64, cst_int n i h0 h, Nat.le_refl _⟩
theorem marks_cb (n : Nat) (w : List Int) (hl : w.length ≤ 400) (hm : ∀ m ∈ w, 0 ≤ m ∧ m ≤ 3) : CB (n + 1) (marksD w) 30000 := by
  refine CB.mono (cst_tup_bd (B := 64) fun x hx => ?_) (by rw [List.length_map]; omega)
  rw [List.mem_map] at hx
  obtain ⟨m, hmm, rfl⟩ := hx
  have := hm m hmm
  exact int_cb n m this.1 (by omega)
theorem blk_cb (n : Nat) (b : List Int × Int) (h : Bk b) : CB (n + 2) (blkD b) 61000 := by
  refine CB.mono (cst_tup_bd (B := 30000) (l := [marksD b.1, .int b.2]) fun x hx => ?_) (by simp only [List.length_cons, List.length_nil]; omega)
  have hf := h.few
  simp only [List.mem_cons, List.not_mem_nil, or_false] at hx
  rcases hx with rfl | rfl
  · exact marks_cb n b.1 (by omega) h.mks
  · exact (int_cb (n + 1) b.2 (by have := h.pos; omega) (by have := h.top; omega)).mono (by decide)
theorem row_cb (n : Nat) (r : Row) (h : Rk r) : CB (n + 3) (rowD r) 3700000 := by
  have hf := h.few
  refine CB.mono (cst_tup_bd (B := 61000) fun x hx => ?_) (by rw [List.length_map]; omega)
  rw [List.mem_map] at hx
  obtain ⟨b, hb, rfl⟩ := hx
  exact blk_cb n b (h.bk b hb)
theorem like_bd (d : D) (h : CB deep d 16000000) : F__law_like [d, d] g = .ok (.bl true) g := by
  obtain ⟨c, e, hc⟩ := h
  exact like_same d c e hc
theorem wd_marks {r : Row} (h : Bks r) : ∀ m ∈ wd r, 0 ≤ m ∧ m ≤ 3 := by
  intro m hm
  unfold wd at hm
  rw [List.mem_flatten] at hm
  obtain ⟨l, hl, hm⟩ := hm
  rw [List.mem_map] at hl
  obtain ⟨x, hx, rfl⟩ := hl
  unfold bw rep at hm
  rw [List.mem_flatten] at hm
  obtain ⟨l, hl, hm⟩ := hm
  rw [List.mem_replicate] at hl
  rw [hl.2] at hm
  exact (h x hx).mks m hm
theorem cut_range (w : List Int) (p n : Nat) (h : p + n ≤ w.length) : (List.range n).map (fun i => w.getD (p + i) 0) = cut w p (p + n) := by
  unfold cut
  apply List.ext_getElem
  · rw [List.length_map, List.length_range, List.length_drop, List.length_take]
    omega
  · intro i h1 h2
    rw [List.length_map, List.length_range] at h1
    rw [List.getElem_map, List.getElem_range, List.getElem_drop, List.getElem_take, List.getD_eq_getElem?_getD, List.getElem?_eq_getElem (by omega)]
    rfl
/-! ### one place -/
abbrev n7 : Dl.Env := [.no, .no, .no, .no, .no, .no, .no]
def baseE (ns : List Int) (r : Row) (t : Sl) : Dl.Env := [.im (.scr ns), .im .hdl, .im (rowD r), .im (.int (wd r).length), t]
/-! ### a row is asked for its word -/
def dueD (q : Row) : D := if 300 < (wd q).length then greatD else marksD (wd q)
theorem great_cb : CB deep greatD 1000 := by
  refine CB.mono (cst_tup_bd (n := 39) (B := 64) (l := [.str "great", .int 300]) fun x hx => ?_) (by decide)
  simp only [List.mem_cons, List.not_mem_nil, or_false] at hx
  rcases hx with rfl | rfl
  · exact ⟨52, by decide +kernel, by decide⟩
  · exact int_cb 39 300 (by decide) (by decide)
/-! ### the first other mark -/
theorem wrong_comp (S : Int) {b : Yd → Dl.Env → Option Dl.Env} {tm : Me Bool} {el : Me D} {ρ : Dl.Env} (u : List Int) (h : ∀ x ∈ u, ∃ ρ1, b (.one (.int x)) ρ = some ρ1 ∧ tm ρ1 g = .ok (decide (S ≤ x)) g ∧ el ρ1 g = .ok (.int x) g) :
    compF b tm el ρ (u.map (Yd.one ∘ D.int)) g = .ok ((u.filter fun x => decide (S ≤ x)).map D.int) g := by
  induction u with
  | nil => rfl
  | cons x u ih =>
    obtain ⟨ρ1, h1, h2, h3⟩ := h x List.mem_cons_self
    have ih := ih fun y hy => h y (List.mem_cons_of_mem _ hy)
    rw [List.map_cons, comp_cons]
    show (match b (.one (.int x)) ρ with
      | none => Re.bad
      | some ρ1 => (tm ρ1 g).nox.bind fun k g => if k = true then (el ρ1 g).nox.bind fun d g => (compF b tm el ρ (u.map (Yd.one ∘ D.int)) g).bind fun l g => .ok (d :: l) g else compF b tm el ρ (u.map (Yd.one ∘ D.int)) g) = _
    rw [h1]
    by_cases c : S ≤ x
    · simp [h2, h3, ih, c]
    · simp [h2, ih, c]
theorem mark_cb (m : Int) (h0 : 0 ≤ m) (h1 : m ≤ 3) : CB deep (.tup [.str "mark", .int m]) 1000 := by
  refine CB.mono (cst_tup_bd (n := 39) (B := 64) (l := [.str "mark", .int m]) fun x hx => ?_) (by simp only [List.length_cons, List.length_nil]; omega)
  simp only [List.mem_cons, List.not_mem_nil, or_false] at hx
  rcases hx with rfl | rfl
  · exact ⟨42, by decide +kernel, by decide⟩
  · exact int_cb 39 m h0 (by omega)
theorem eq_nil_nil : eqF (.lst []) (.lst []) g = .ok (.bl true) g := rfl
theorem eq_cons_nil (x : Int) (l : List Int) : eqF (.lst (D.int x :: l.map D.int)) (.lst []) g = .ok (.bl false) g := by
  have e : (dn deep (.lst (D.int x :: l.map D.int)) && dn deep (.lst [])) = true := by
    rw [Bool.and_eq_true]
    exact ⟨dn_ints (x :: l) 39, rfl⟩
  show (if (dn deep (.lst (D.int x :: l.map D.int)) && dn deep (.lst [])) = true then Re.ok (D.bl (eqD (.lst (D.int x :: l.map D.int)) (.lst []))) g else .bad) = _
  rw [if_pos e]
  rfl
theorem split_first (S : Int) : ∀ (u : List Int) (m : Int) (l : List Int), u.filter (fun x => decide (S ≤ x)) = m :: l → ∃ w v, u = w ++ m :: v ∧ S ≤ m ∧ ∀ x ∈ w, x < S
  | [], m, l, h => by cases h
  | x :: u, m, l, h => by
    by_cases c : S ≤ x
    · rw [List.filter_cons_of_pos (by simpa using c)] at h
      cases h
      exact ⟨[], u, rfl, c, fun x hx => by cases hx⟩
    · rw [List.filter_cons_of_neg (by simpa using c)] at h
      obtain ⟨w, v, e, hm, hw⟩ := split_first S u m l h
      refine ⟨x :: w, v, by rw [e]; rfl, hm, fun y hy => ?_⟩
      rcases List.mem_cons.mp hy with z | z
      · subst z; omega
      · exact hw y z
end Wk
set_option linter.all false
set_option maxRecDepth 100000
set_option maxHeartbeats 8000000
namespace Wk
open PySem L2 Dl Rw
variable {g : G}
theorem wd_bound : ∀ (r : Row), Bks r → (wd r).length ≤ r.length * (60 * 10 ^ 30)
  | [], _ => by simp [wd_nil]
  | x :: r, h => by
    have hx := h x List.mem_cons_self
    have ih := wd_bound r fun y hy => h y (List.mem_cons_of_mem _ hy)
    rw [wd_cons, List.length_append, bw_len, List.length_cons, Nat.succ_mul]
    have h1 : bsz x ≤ 60 * 10 ^ 30 := by
      unfold bsz
      rw [Nat.mul_comm]
      have := hx.few
      have := hx.top
      exact Nat.mul_le_mul (by omega) (by omega)
    omega
theorem wd_pos {r : Row} (h : Bks r) (h1 : 1 ≤ r.length) : 1 ≤ (wd r).length := by
  cases r with
  | nil => simp at h1
  | cons x r =>
    have hx := h x List.mem_cons_self
    rw [wd_cons, List.length_append, bw_len]
    have : 1 ≤ bsz x := by
      unfold bsz
      have := hx.one
      have := hx.pos
      exact Nat.mul_pos (by omega) (by omega)
    omega
theorem rk_nil : Rk [] := ⟨by decide, fun x hx => by cases hx⟩
/-! ### the word of one call in blocks -/
theorem due_comp (w : List Int) (n : Nat) {ρ : Dl.Env} (hρ : ρ = ρ) (el : Me D) (ρ1 : Int → Dl.Env) (b : Yd → Dl.Env → Option Dl.Env) (hb : ∀ i : Int, b (.one (.int i)) ρ = some (ρ1 i)) (he : ∀ i : Nat, el (ρ1 i) g = .ok (blkD (plB w i)) g) :
    compF b tmYes el ρ (rgD 0 1 n) g = .ok ((List.range n).map fun i => blkD (plB w i)) g := by
  have q := rg_comp (g := g) (b := b) (tm := tmYes) (el := el) (ρ := ρ) (fun z => blkD (plB w z.toNat)) n 0 fun i hi => ⟨ρ1 (0 + (i : Int)), hb _, rfl, by
    rw [Int.zero_add]
    exact he i⟩
  rw [q]
  congr 1
  apply List.map_congr_left
  intro i _
  simp
theorem sl60' (w : List Int) (i : Nat) : slF (.tup (w.map D.int)) (some (60 * (i : Int))) (some (60 * (i : Int) + 60)) g = .ok (marksD (plB w i).1) g := by
  have z := sl60 (g := g) w i
  rw [show ((60 * i : Nat) : Int) = 60 * (i : Int) by omega] at z
  exact z
theorem mulI_60 (i : Nat) (h : i ≤ 1000) : mulI 60 (i : Int) = some (60 * (i : Int)) := mulI_ok (by decide +kernel) (small_nat h)
theorem divI_60 (n : Nat) (h : n ≤ 3600) : divI ((n : Int) + 59) 60 = some (((n + 59) / 60 : Nat) : Int) := by
  have e := divI_nat (b := n + 59) (n := 60) (by decide) (by decide)
  rw [show ((n + 59 : Nat) : Int) = (n : Int) + 59 by omega] at e
  exact e
theorem rep_mem {t : Nat} {l : List Int} {m : Int} (h : m ∈ rep t l) : m ∈ l := by
  unfold rep at h
  rw [List.mem_flatten] at h
  obtain ⟨x, hx, h⟩ := h
  rw [List.mem_replicate] at hx
  rw [hx.2] at h
  exact h
theorem fin_seq {f h : Ms} {ρ ρ' : Dl.Env} {g g' : G} {R : Re D} (e : f ρ g = .ok (.nx ρ') g') (k : fin (h ρ' g') = R) : fin (sSeq f h ρ g) = R := by
  rw [s_Seq, e]
  exact k
end Wk
set_option linter.all false
set_option maxRecDepth 100000
set_option maxHeartbeats 4000000
namespace Wk
open PySem L2 Dl Rw
variable {g : G}
/-! ### texts -/
theorem strOk_of (s : String) : PyData.strOk (Str.ofString s) = true := by
  unfold PyData.strOk
  rw [Str.ofString_eq_toList]
  simp
  intro c hc
  have := c.valid
  rcases this with h | h
  · have : c.val.toNat < 55296 := h
    show c.val.toNat < 1114112
    omega
  · exact h.2
theorem rep_bd {d : D} {c : Nat} (h : cst deep d = some c) (hc : c ≤ 1000) : repD d = some (.str (shD d)) ∧ ∀ g : G, reprF [d] g = .ok (.str (shD d)) g := by
  constructor
  · unfold repD
    rw [h]
    exact if_pos (by omega)
  · intro g
    show (match cst deep d with
      | some c => if c ≤ 16000000 then Re.ok (D.str (shD d)) g else .bad
      | none => .bad) = _
    rw [h]
    exact if_pos (by omega)
theorem str_cb (n : Nat) (x : Str) (h : PyData.strOk x = true) (hl : x.length ≤ 1000) : CB n (.str x) 10002 := by
  refine ⟨10 * x.length + 2, ?_, by omega⟩
  have e : cst n (.str x) = if PyData.strOk x = true then some (10 * x.length + 2) else none := by cases n <;> rfl
  rw [e, if_pos h]
/-! ### places and their limits -/
def Out1 (d : D) (lo hi : Int) : Prop := ∀ g : G, F_is_within [d, .int lo, .int hi] g = .ok (.bl false) g
theorem out_int (i lo hi : Int) (h : i < lo ∨ hi < i) : Out1 (.int i) lo hi := fun g => by
  simp
  omega
theorem out_bl (b : Bool) (lo hi : Int) : Out1 (.bl b) lo hi := fun g => by
  simp [F_is_within, bodyF, entry, m_is_within, F_is_whole, m_is_whole]
theorem out_non (lo hi : Int) : Out1 .non lo hi := fun g => by
  simp [F_is_within, bodyF, entry, m_is_within, F_is_whole, m_is_whole]
theorem out_str (x : Str) (lo hi : Int) : Out1 (.str x) lo hi := fun g => by
  simp [F_is_within, bodyF, entry, m_is_within, F_is_whole, m_is_whole]
theorem out_tup (x : List D) (lo hi : Int) : Out1 (.tup x) lo hi := fun g => by
  simp [F_is_within, bodyF, entry, m_is_within, F_is_whole, m_is_whole]
theorem Rk.sm {r : Row} (h : Rk r) : ∀ b ∈ r, Sm b := fun b hb => (h.bk b hb).sm
/-! ### few enough blocks -/
theorem join_sum (p q : Row) (hp : p.length ≤ 60) (hq : q.length ≤ 60) : addD (rowD p) (rowD q) g = .ok (rowD (p ++ q)) g := by
  unfold rowD
  rw [add_tup, List.length_map, List.length_map, if_pos (by show p.length + q.length ≤ 1000000; omega), List.map_append]
/-! ### parts are rows -/
theorem pob_bk (l : List Int) (b e t : Nat) (hl : 0 < l.length) (hf : l.length ≤ 60) (hm : ∀ m ∈ l, 0 ≤ m ∧ m ≤ 3) (hb : b < e) (he : e ≤ t * l.length) (ht : t ≤ 10 ^ 30) : ∀ x ∈ pob l b e, Bk x := by
  have one : ∀ (q : List Int), q.Sublist l → 1 ≤ q.length → Bk (q, 1) := fun q s h1 => ⟨h1, by have := s.length_le; show q.length ≤ 60; omega, fun m h => hm m (s.subset h), (by decide : (1 : Int) ≤ 1), (by decide : (1 : Int) ≤ 10 ^ 30)⟩
  have rb : b % l.length < l.length := Nat.mod_lt _ hl
  have re : e % l.length < l.length := Nat.mod_lt _ hl
  have eb := Nat.div_add_mod b l.length
  have hq : e / l.length ≤ t := by
    have := Nat.div_le_div_right (c := l.length) he
    rwa [Nat.mul_div_cancel _ hl] at this
  intro x hx
  unfold pob pobG at hx
  split at hx
  · rename_i hqq
    rw [List.mem_singleton] at hx
    subst hx
    refine one _ ((List.drop_sublist _ _).trans (List.take_sublist _ _)) ?_
    rw [List.length_drop, List.length_take]
    have e1 := Nat.div_add_mod (e - 1) l.length
    have r1 := Nat.mod_lt (e - 1) hl
    rw [← hqq] at e1
    rw [Nat.mul_comm] at e1 eb
    omega
  · rw [List.mem_append, List.mem_append] at hx
    rcases hx with (hx | hx) | hx
    · split at hx
      · rw [List.mem_singleton] at hx
        subst hx
        exact one _ (List.drop_sublist _ _) (by rw [List.length_drop]; omega)
      · cases hx
    · generalize (b / l.length + if 0 < b % l.length then 1 else 0) = f at hx
      unfold fullB at hx
      split at hx
      · rename_i hlt
        rw [List.mem_singleton] at hx
        subst hx
        exact ⟨hl, hf, hm, (by omega : (1 : Int) ≤ ((e / l.length - f : Nat) : Int)), (by omega : ((e / l.length - f : Nat) : Int) ≤ 10 ^ 30)⟩
      · cases hx
    · split at hx
      · rw [List.mem_singleton] at hx
        subst hx
        exact one _ (List.take_sublist _ _) (by rw [List.length_take]; omega)
      · cases hx
theorem pof_bk (b e : Nat) : ∀ (r : Row) (A : Nat), Bks r → Bks (pof b e r A)
  | [], _, _ => fun y hy => by cases hy
  | x :: r, A, h => fun y hy => by
    have hx := h x List.mem_cons_self
    have h1 := hx.one
    have h2 := hx.few
    have h3 := hx.top
    unfold pof at hy
    rcases List.mem_append.mp hy with q | q
    · split at q
      · rename_i c
        exact pob_bk _ _ _ x.2.toNat (by omega) (by omega) hx.mks c (Nat.min_le_right _ _) (by omega) y q
      · cases q
    · exact pof_bk b e r _ (fun z hz => h z (List.mem_cons_of_mem _ hz)) y q
theorem pof_rk (b e : Nat) (r : Row) (h : Rk r) (hl : r.length ≤ 5) : Rk (pof b e r 0) := ⟨by have := pof_len b e r 0; omega, pof_bk b e r 0 h.bk⟩
theorem pof_word (b e : Nat) (r : Row) (h : Rk r) : wd (pof b e r 0) = cut (wd r) b e := by
  have q := pof_wd b e r 0 fun x hx => (by have := (h.bk x hx).one; omega)
  rw [Nat.sub_zero, Nat.sub_zero] at q
  exact q
theorem cut_len (w : List Int) (b e : Nat) (h : e ≤ w.length) : (cut w b e).length = e - b := by
  unfold cut
  rw [List.length_drop, List.length_take]
  omega
theorem cut_at (w : List Int) (b e p : Nat) (h : b + p < e) : (cut w b e)[p]? = w[b + p]? := by
  unfold cut
  rw [List.getElem?_drop, List.getElem?_take_of_lt h]
theorem cut_three (w : List Int) (b e : Nat) (hbe : b ≤ e) (he : e ≤ w.length) : cut w 0 b ++ cut w b e ++ cut w e w.length = w := by
  unfold cut
  rw [List.drop_zero, List.take_length]
  have e1 : w.take b = (w.take e).take b := by rw [List.take_take, Nat.min_eq_left hbe]
  rw [e1, List.take_append_drop, List.take_append_drop]
/-! ### rows of one word read alike -/
abbrev partB : Ms := (sIf (asB (eOp neF (eOp ixF (eVar 0) (eOp (arI modI) (eOp addD (eVar 1) (eVar 5)) (eArgs lenF (aCons (eVar 0) aNil)))) (eOp ixF (eVar 2) (eOp (arI modI) (eOp addD (eVar 3) (eVar 5)) (eArgs lenF (aCons (eVar 2) aNil)))))) (sRet (eVar 5)) sNil)
theorem ix_mod (l : List Int) (p : Nat) (m : Int) (h : l[p % l.length]? = some m) : (arI modI (.int (p : Int)) (.int (l.length : Int)) g).bind (fun k g => ixF (.tup (l.map D.int)) k g) = .ok (.int m) g := by
  have hl : 0 < l.length := by
    by_cases z : l.length = 0
    · have : l = [] := List.eq_nil_of_length_eq_zero z
      subst this
      simp at h
    · omega
  have hd : modI (p : Int) (l.length : Int) = some ((p % l.length : Nat) : Int) := modI_nat hl
  have hix : ixF (.tup (l.map D.int)) (.int ((p % l.length : Nat) : Int)) g = .ok (.int m) g := by
    show op (atI (l.map D.int) _) g = _
    rw [atI_nat2 (d := D.int m) (by rw [List.getElem?_map, h]; rfl)]
    rfl
  rw [ar_int, hd]
  exact hix
theorem part_loopN (l v : List Int) (a b many : Nat) : ∀ (n i : Nat), (∀ k, i ≤ k → k < i + n → ∃ m, l[(a + k) % l.length]? = some m ∧ v[(b + k) % v.length]? = some m) →
    loopF (bOne (bName 5)) [5] partB (rgD (i : Int) 1 n) [.im (marksD l), .im (.int a), .im (marksD v), .im (.int b), .im (.int many), .no] g = .ok (.nx [.im (marksD l), .im (.int a), .im (marksD v), .im (.int b), .im (.int many), .no]) g
  | 0, _, _ => rfl
  | n + 1, i, h => by
    obtain ⟨m, h1, h2⟩ := h i (Nat.le_refl _) (by omega)
    have e1 := ix_mod (g := g) l (a + i) m h1
    have e2 := ix_mod (g := g) v (b + i) m h2
    have ih := part_loopN l v a b many n (i + 1) fun k k1 k2 => h k (by omega) (by omega)
    rw [show ((a + i : Nat) : Int) = (a : Int) + (i : Int) by omega] at e1
    rw [show ((b + i : Nat) : Int) = (b : Int) + (i : Int) by omega] at e2
    rw [show ((i + 1 : Nat) : Int) = (i : Int) + 1 by omega] at ih
    rw [show rgD (i : Int) 1 (n + 1) = .one (.int (i : Int)) :: rgD ((i : Int) + 1) 1 n from rfl, loop_step (ρ1 := [.im (marksD l), .im (.int a), .im (marksD v), .im (.int b), .im (.int many), .im (.int (i : Int))]) (by simp)]
    simp only [marksD] at ih
    have e3 : partB [.im (marksD l), .im (.int a), .im (marksD v), .im (.int b), .im (.int many), .im (.int (i : Int))] g = .ok (.nx [.im (marksD l), .im (.int a), .im (marksD v), .im (.int b), .im (.int many), .im (.int (i : Int))]) g := by
      simp only [ar_int] at e1 e2
      simp [marksD]
      rw [e1]
      simp
      rw [e2]
      simp
    rw [e3]
    simp [marksD, ih]
theorem parting_none (l v : List Int) (a b many : Nat) (hl : l.length ≤ 60) (hv : v.length ≤ 60) (h : ∀ k, k < many → ∃ m, l[(a + k) % l.length]? = some m ∧ v[(b + k) % v.length]? = some m) :
    F_parting_within [marksD l, .int a, marksD v, .int b, .int many] g = .ok .non g := by
  obtain ⟨n, hn⟩ : ∃ n : Nat, min (many : Int) ((l.length : Int) + (v.length : Int)) = (n : Int) := ⟨(min (many : Int) ((l.length : Int) + (v.length : Int))).toNat, by omega⟩
  have q := part_loopN (g := g) l v a b many n 0 fun k _ k2 => h k (by omega)
  have hss : smallI (n : Int) = true := small_lit _ (by omega)
  rw [show ((0 : Nat) : Int) = 0 from rfl] at q
  simp only [marksD] at q
  simp [F_parting_within, bodyF, entry, m_parting_within, marksD, hn, hss, q]
end Wk
set_option linter.all false
set_option maxRecDepth 100000
set_option maxHeartbeats 4000000
namespace Wk
open PySem L2 Dl Rw
variable {g : G}
abbrev unC : Me Bool := (tAndM (asB (eOp ltF (eVar 2) (eArgs lenF (aCons (eVar 0) aNil)))) (asB (eOp ltF (eVar 3) (eArgs lenF (aCons (eVar 1) aNil)))))
abbrev unB : Ms := (sSeq (sAsg (eOp ixF (eVar 0) (eVar 2)) (bTup 2 (bCons (bName 7) (bCons (bName 8) bNil)))) (sSeq (sAsg (eOp ixF (eVar 1) (eVar 3)) (bTup 2 (bCons (bName 9) (bCons (bName 10) bNil)))) (sSeq (sSet 11 (eArgs min2F (aCons (eOp (arI subI) (eOp mulD (eArgs lenF (aCons (eVar 7) aNil)) (eVar 8)) (eVar 4)) (aCons (eOp (arI subI) (eOp mulD (eArgs lenF (aCons (eVar 9) aNil)) (eVar 10)) (eVar 5)) aNil)))) (sSeq (sSet 12 (eCall 5 F_parting_within (aCons (eVar 7) (aCons (eVar 4) (aCons (eVar 9) (aCons (eVar 5) (aCons (eVar 11) aNil))))))) (sSeq (sIf (asB (eOp isntF (eVar 12) (eC .non))) (sRet (eOp addD (eVar 6) (eVar 12))) sNil) (sSeq (sParT 6 4 5 (aCons (eOp addD (eVar 6) (eVar 11)) (aCons (eOp addD (eVar 4) (eVar 11)) (aCons (eOp addD (eVar 5) (eVar 11)) aNil)))) (sSeq (sIf (asB (eOp eqF (eVar 4) (eOp mulD (eArgs lenF (aCons (eVar 7) aNil)) (eVar 8)))) (sPar 2 4 (zIm (eOp addD (eVar 2) (eC (.int 1))) (zIm (eC (.int 0)) zNil))) sNil) (sIf (asB (eOp eqF (eVar 5) (eOp mulD (eArgs lenF (aCons (eVar 9) aNil)) (eVar 10)))) (sPar 3 5 (zIm (eOp addD (eVar 3) (eC (.int 1))) (zIm (eC (.int 0)) zNil))) sNil))))))))
def unE (p r : Row) (i j a b pl : Nat) : Dl.Env := [.im (rowD p), .im (rowD r), .im (.int i), .im (.int j), .im (.int a), .im (.int b), .im (.int pl), .no, .no, .no, .no, .no, .no]
theorem row_ix (p : Row) (i : Nat) (x : List Int × Int) (h : p[i]? = some x) : ixF (rowD p) (.int (i : Int)) g = .ok (blkD x) g := by
  show op (atI (p.map blkD) _) g = _
  rw [atI_nat2 (d := blkD x) (by rw [List.getElem?_map, h]; rfl)]
  rfl
theorem un_turn (p r : Row) (i j a b pl many : Nat) (x y : List Int × Int) (hx : Bk x) (hy : Bk y) (hi : p[i]? = some x) (hj : r[j]? = some y) (ha : a < bsz x) (hb : b < bsz y) (hm : many = min (bsz x - a) (bsz y - b))
    (hn : ∀ k, k < many → ∃ m, x.1[(a + k) % x.1.length]? = some m ∧ y.1[(b + k) % y.1.length]? = some m) : ∃ e : List Sl, e.length = 6 ∧
    unB (unE p r i j a b pl) g = .ok (.nx ([.im (rowD p), .im (rowD r), .im (.int (if a + many = bsz x then i + 1 else i : Nat)), .im (.int (if b + many = bsz y then j + 1 else j : Nat)), .im (.int (if a + many = bsz x then 0 else a + many : Nat)), .im (.int (if b + many = bsz y then 0 else b + many : Nat)), .im (.int (pl + many : Nat))] ++ e)) g := by
  have h1 := mul_size hx
  have h2 := mul_size hy
  have e1 := row_ix (g := g) p i x hi
  have e2 := row_ix (g := g) r j y hj
  have e3 := parting_none (g := g) x.1 y.1 a b many hx.few hy.few hn
  have e4 : min (((bsz x : Nat) : Int) - (a : Int)) (((bsz y : Nat) : Int) - (b : Int)) = (many : Int) := by omega
  refine ⟨[.im (marksD x.1), .im (.int x.2), .im (marksD y.1), .im (.int y.2), .im (.int many), .im .non], rfl, ?_⟩
  simp only [marksD] at e3
  by_cases c1 : a + many = bsz x
  · have d1 : (a : Int) + (many : Int) = ((bsz x : Nat) : Int) := by omega
    by_cases c2 : b + many = bsz y
    · have d2 : (b : Int) + (many : Int) = ((bsz y : Nat) : Int) := by omega
      simp [unE, e1, e2, blkD, marksD, h1, h2, e4, e3, c1, c2, d1, d2]
    · have d2 : ¬ (b : Int) + (many : Int) = ((bsz y : Nat) : Int) := by omega
      simp [unE, e1, e2, blkD, marksD, h1, h2, e4, e3, c1, c2, d1, d2]
  · have d1 : ¬ (a : Int) + (many : Int) = ((bsz x : Nat) : Int) := by omega
    by_cases c2 : b + many = bsz y
    · have d2 : (b : Int) + (many : Int) = ((bsz y : Nat) : Int) := by omega
      simp [unE, e1, e2, blkD, marksD, h1, h2, e4, e3, c1, c2, d1, d2]
    · have d2 : ¬ (b : Int) + (many : Int) = ((bsz y : Nat) : Int) := by omega
      simp [unE, e1, e2, blkD, marksD, h1, h2, e4, e3, c1, c2, d1, d2]
theorem wd_from (p : Row) (i : Nat) (x : List Int × Int) (h : p[i]? = some x) : wd (p.drop i) = bw x ++ wd (p.drop (i + 1)) := by
  obtain ⟨hl, e⟩ := List.getElem?_eq_some_iff.mp h
  rw [List.drop_eq_getElem_cons hl, wd_cons, e]
theorem un_loop (p r : Row) (hp : Bks p) (hr : Bks r) : ∀ (m i j a b pl fu : Nat), (p.length - i) + (r.length - j) ≤ m → m < fu → i ≤ p.length → j ≤ r.length → (∀ x, p[i]? = some x → a < bsz x) → (∀ y, r[j]? = some y → b < bsz y) → (wd (p.drop i)).drop a = (wd (r.drop j)).drop b →
    ∃ a' b' pl' : Nat, whileF unC [7, 8, 9, 10, 11, 12] unB fu (unE p r i j a b pl) g = .ok (.nx (unE p r p.length r.length a' b' pl')) g := by
  intro m
  induction m with
  | zero =>
    intro i j a b pl fu hm hf hi hj _ _ _
    obtain ⟨fu, rfl⟩ : ∃ n, fu = n + 1 := ⟨fu - 1, by omega⟩
    have e1 : i = p.length := by omega
    have e2 : j = r.length := by omega
    subst e1 e2
    exact ⟨a, b, pl, by simp [whileF, unE, rowD]⟩
  | succ m ih =>
    intro i j a b pl fu hm hf hi hj ha hb hw
    obtain ⟨fu, rfl⟩ : ∃ n, fu = n + 1 := ⟨fu - 1, by omega⟩
    by_cases ci : i < p.length
    · obtain ⟨x, hx⟩ : ∃ x, p[i]? = some x := ⟨_, List.getElem?_eq_getElem ci⟩
      have hax := ha x hx
      have bx := hp x (List.mem_of_getElem? hx)
      have w1 := wd_from p i x hx
      by_cases cj : j < r.length
      · obtain ⟨y, hy⟩ : ∃ y, r[j]? = some y := ⟨_, List.getElem?_eq_getElem cj⟩
        have hby := hb y hy
        have bY := hr y (List.mem_of_getElem? hy)
        have w2 := wd_from r j y hy
        obtain ⟨many, hmany⟩ : ∃ many, many = min (bsz x - a) (bsz y - b) := ⟨_, rfl⟩
        have hk : ∀ k, k < many → ∃ m, x.1[(a + k) % x.1.length]? = some m ∧ y.1[(b + k) % y.1.length]? = some m := fun k hk => by
          have k1 : a + k < bsz x := by omega
          have k2 : b + k < bsz y := by omega
          have q1 : ((wd (p.drop i)).drop a)[k]? = x.1[(a + k) % x.1.length]? := by
            rw [List.getElem?_drop, w1, List.getElem?_append_left (by rw [bw_len]; exact k1)]
            exact rep_at k1
          have q2 : ((wd (r.drop j)).drop b)[k]? = y.1[(b + k) % y.1.length]? := by
            rw [List.getElem?_drop, w2, List.getElem?_append_left (by rw [bw_len]; exact k2)]
            exact rep_at k2
          have hl : (a + k) % x.1.length < x.1.length := Nat.mod_lt _ (by have := bx.one; omega)
          refine ⟨_, List.getElem?_eq_getElem hl, ?_⟩
          rw [← q2, ← hw, q1, List.getElem?_eq_getElem hl]
        obtain ⟨e, he, ee⟩ := un_turn (g := g) p r i j a b pl many x y bx bY hx hy hax hby hmany hk
        have nx : ∀ (i' j' a' b' : Nat), i' = (if a + many = bsz x then i + 1 else i) → j' = (if b + many = bsz y then j + 1 else j) → a' = (if a + many = bsz x then 0 else a + many) → b' = (if b + many = bsz y then 0 else b + many) →
            ∃ a'' b'' pl' : Nat, whileF unC [7, 8, 9, 10, 11, 12] unB fu (unE p r i' j' a' b' (pl + many)) g = .ok (.nx (unE p r p.length r.length a'' b'' pl')) g := fun i' j' a' b' ei ej ea eb => by
          have d1 : (wd (p.drop i')).drop a' = (wd (p.drop i)).drop (a + many) := by
            by_cases c : a + many = bsz x
            · rw [ei, ea, if_pos c, if_pos c, List.drop_zero, c, w1, ← bw_len, List.drop_left]
            · rw [ei, ea, if_neg c, if_neg c]
          have d2 : (wd (r.drop j')).drop b' = (wd (r.drop j)).drop (b + many) := by
            by_cases c : b + many = bsz y
            · rw [ej, eb, if_pos c, if_pos c, List.drop_zero, c, w2, ← bw_len, List.drop_left]
            · rw [ej, eb, if_neg c, if_neg c]
          have one : a + many = bsz x ∨ b + many = bsz y := by omega
          refine ih i' j' a' b' (pl + many) fu ?_ (by omega) ?_ ?_ (fun z hz => ?_) (fun z hz => ?_) ?_
          · rw [ei, ej]
            rcases one with c | c
            · rw [if_pos c]
              split <;> omega
            · rw [if_pos c]
              split <;> omega
          · rw [ei]; split <;> omega
          · rw [ej]; split <;> omega
          · by_cases c : a + many = bsz x
            · rw [ea, if_pos c]
              have := hp z (List.mem_of_getElem? hz)
              unfold bsz
              exact Nat.mul_pos (by have := this.pos; omega) (by have := this.one; omega)
            · rw [ei, if_neg c, hx] at hz
              cases hz
              rw [ea, if_neg c]
              omega
          · by_cases c : b + many = bsz y
            · rw [eb, if_pos c]
              have := hr z (List.mem_of_getElem? hz)
              unfold bsz
              exact Nat.mul_pos (by have := this.pos; omega) (by have := this.one; omega)
            · rw [ej, if_neg c, hy] at hz
              cases hz
              rw [eb, if_neg c]
              omega
          · rw [d1, d2, ← List.drop_drop, ← List.drop_drop, hw]
        obtain ⟨a'', b'', pl', q⟩ := nx _ _ _ _ rfl rfl rfl rfl
        refine ⟨a'', b'', pl', ?_⟩
        have cc : unC (unE p r i j a b pl) g = .ok true g := by
          have h1 : (i : Int) < (p.length : Int) := by omega
          have h2 : (j : Int) < (r.length : Int) := by omega
          simp [unE, rowD, h1, h2]
        show ((unC (unE p r i j a b pl) g).bindS (unE p r i j a b pl) fun k g => if k = true then (unB (unE p r i j a b pl) g).turn [7, 8, 9, 10, 11, 12] (whileF unC [7, 8, 9, 10, 11, 12] unB fu) else .ok (.nx (unE p r i j a b pl)) g) = _
        rw [cc, bindS_ok, if_pos rfl, ee, turn_nx]
        match e, he with
        | [f1, f2, f3, f4, f5, f6], _ => exact q
      · have ej : j = r.length := by omega
        exfalso
        subst ej
        rw [List.drop_length, wd_nil, List.drop_nil, w1] at hw
        have : ((bw x ++ wd (p.drop (i + 1))).drop a).length = 0 := by rw [hw]; rfl
        rw [List.length_drop, List.length_append, bw_len] at this
        omega
    · have ei : i = p.length := by omega
      subst ei
      by_cases cj : j < r.length
      · obtain ⟨y, hy⟩ : ∃ y, r[j]? = some y := ⟨_, List.getElem?_eq_getElem cj⟩
        have hby := hb y hy
        have w2 := wd_from r j y hy
        exfalso
        rw [List.drop_length, wd_nil, List.drop_nil, w2] at hw
        have : ((bw y ++ wd (r.drop (j + 1))).drop b).length = 0 := by rw [← hw]; rfl
        rw [List.length_drop, List.length_append, bw_len] at this
        omega
      · have ej : j = r.length := by omega
        subst ej
        exact ⟨a, b, pl, by simp [whileF, unE, rowD]⟩
theorem bsz_pos {x : List Int × Int} (h : Bk x) : 0 < bsz x := by
  unfold bsz
  exact Nat.mul_pos (by have := h.pos; omega) (by have := h.one; omega)
theorem unlike_none (p r : Row) (hp : Rk p) (hr : Rk r) (h : wd p = wd r) : F_unlike_place [rowD p, rowD r] g = .ok .non g := by
  have h1 := hp.few
  have h2 := hr.few
  obtain ⟨a, b, pl, q⟩ := un_loop (g := g) p r hp.bk hr.bk (p.length + r.length) 0 0 0 0 0 fuel (by omega) (by have : fuel = 1000000000000 := rfl; omega) (Nat.zero_le _) (Nat.zero_le _) (fun x hx => bsz_pos (hp.bk x (List.mem_of_getElem? hx))) (fun x hx => bsz_pos (hr.bk x (List.mem_of_getElem? hx))) (by rw [List.drop_zero, List.drop_zero, List.drop_zero, List.drop_zero, h])
  have w : sWhile unC [7, 8, 9, 10, 11, 12] unB [.im (rowD p), .im (rowD r), .im (.int 0), .im (.int 0), .im (.int 0), .im (.int 0), .im (.int 0), .no, .no, .no, .no, .no, .no] g = .ok (.nx (unE p r p.length r.length a b pl)) g := q
  generalize hW : sWhile unC [7, 8, 9, 10, 11, 12] unB = W at w
  show fin (m_unlike_place (entry 13 [rowD p, rowD r]) g) = _
  unfold m_unlike_place
  rw [hW]
  simp only [unE, rowD] at w
  simp [entry, w, rowD]
theorem alike_ok (p r : Row) (hp : Rk p) (hr : Rk r) (h : wd p = wd r) : F_read_alike [rowD p, rowD r] g = .ok (.bl true) g := by
  have e := unlike_none (g := g) p r hp hr h
  have f : F_first_unlike [rowD p, rowD r] g = .ok .non g := by
    simp [F_first_unlike, bodyF, entry, m_first_unlike, F_need_row_row p hp, F_need_row_row r hr, e]
  simp [F_read_alike, bodyF, entry, m_read_alike, f]
end Wk
set_option linter.all false
namespace Rw
/-! ### the first place where two words part -/
def Ul (X Y : List Int) : Option Nat → Prop
  | none => X = Y
  | some k => (∀ i, i < k → X[i]? = Y[i]?) ∧ X[k]? ≠ Y[k]?
theorem Ul.uniq {X Y : List Int} {o o' : Option Nat} (a : Ul X Y o) (b : Ul X Y o') : o = o' := by
  cases o with
  | none => cases o' with
    | none => rfl
    | some k =>
      have a : X = Y := a
      subst a
      exact absurd rfl b.2
  | some k => cases o' with
    | none =>
      have b : X = Y := b
      subst b
      exact absurd rfl a.2
    | some k' =>
      rcases Nat.lt_trichotomy k k' with h | h | h
      · exact absurd (b.1 k h) a.2
      · rw [h]
      · exact absurd (a.1 k' h) b.2
theorem Ul.more {X Y : List Int} {n : Nat} {o : Option Nat} (h : ∀ i, i < n → X[i]? = Y[i]?) (a : Ul (X.drop n) (Y.drop n) o) : Ul X Y (o.map (n + ·)) := by
  cases o with
  | none =>
    have a : X.drop n = Y.drop n := a
    show X = Y
    apply List.ext_getElem?
    intro i
    by_cases c : i < n
    · exact h i c
    · have := congrArg (·[i - n]?) a
      simp only [List.getElem?_drop] at this
      rwa [show n + (i - n) = i by omega] at this
  | some k =>
    refine ⟨fun i hi => ?_, ?_⟩
    · by_cases c : i < n
      · exact h i c
      · have := a.1 (i - n) (by simp at hi; omega)
        simp only [List.getElem?_drop] at this
        rwa [show n + (i - n) = i by omega] at this
    · have := a.2
      simp only [List.getElem?_drop] at this
      exact this
theorem Ul.zero {X Y : List Int} (h : X[0]? ≠ Y[0]?) : Ul X Y (some 0) := ⟨fun i hi => absurd hi (Nat.not_lt_zero i), h⟩
theorem Ul.symm {X Y : List Int} {o : Option Nat} (h : Ul X Y o) : Ul Y X o := by
  cases o with
  | none => exact Eq.symm h
  | some k => exact ⟨fun i hi => (h.1 i hi).symm, fun e => h.2 e.symm⟩
/-! ### two rounds that are alike over as many entries as both have marks are alike -/
theorem rounds_alike {α : Type} (u v : Nat → α) (n m N : Nat) (hn : 0 < n) (hm : 0 < m) (hu : ∀ i, u (i + n) = u i) (hv : ∀ i, v (i + m) = v i) (h : ∀ i, i < n + m → u i = v i) : ∀ i, u i = v i := by
  intro i
  induction i using Nat.strongRecOn with
  | ind i ih =>
    by_cases c : i < n + m
    · exact h i c
    · have e1 : u i = u (i - n) := by rw [← hu (i - n)]; congr 1; omega
      have e2 : v i = v (i - m) := by rw [← hv (i - m)]; congr 1; omega
      have e3 : u (i - m) = u (i - m - n) := by rw [← hu (i - m - n)]; congr 1; omega
      have e4 : v (i - n) = v (i - n - m) := by rw [← hv (i - n - m)]; congr 1; omega
      rw [e1, e2, ih (i - n) (by omega), e4, ← ih (i - m) (by omega), e3, ih (i - m - n) (by omega)]
      congr 1
      omega
/-! ### periods -/
def per (W : List Int) (n : Nat) : Prop := W.take (W.length - n) = W.drop n
instance (W : List Int) (n : Nat) : Decidable (per W n) := by unfold per; exact inferInstance
theorem per_rep : ∀ (t : Nat) (W : List Int) (n : Nat), W.length = t * n → per W n → W = rep t (W.take n)
  | 0, W, n, hl, _ => by
    rw [Nat.zero_mul] at hl
    rw [List.eq_nil_of_length_eq_zero hl]
    rfl
  | t + 1, W, n, hl, h => by
    rw [Nat.succ_mul] at hl
    unfold per at h
    have hl2 : (W.drop n).length = t * n := by rw [List.length_drop]; omega
    have h2 : per (W.drop n) n := by
      unfold per
      rw [List.length_drop]
      have := congrArg (·.drop n) h
      simp only [List.drop_take] at this
      exact this
    have ih := per_rep t (W.drop n) n hl2 h2
    rw [rep_succ]
    by_cases z : t = 0
    · subst z
      rw [Nat.zero_mul] at hl
      rw [rep_zero, List.append_nil, List.take_of_length_le (by omega)]
    · have e : (W.drop n).take n = W.take n := by
        rw [← h, List.take_take, Nat.min_eq_left]
        have : n ≤ t * n := Nat.le_mul_of_pos_left n (by omega)
        omega
      rw [e] at ih
      rw [← ih, List.take_append_drop]
theorem rep_per (t : Nat) (x : List Int) : per (rep t x) x.length := by
  unfold per
  rw [rep_length]
  cases t with
  | zero => simp [rep_zero]
  | succ t =>
    rw [Nat.succ_mul, Nat.add_sub_cancel]
    have e1 : rep (t + 1) x = rep t x ++ x := by rw [rep_add, rep_one]
    conv => lhs; rw [e1]
    rw [rep_succ, List.drop_left, ← rep_length, List.take_left]
theorem rep_mul (a b : Nat) (x : List Int) : rep a (rep b x) = rep (a * b) x := by
  induction a with
  | zero => rw [Nat.zero_mul]; rfl
  | succ a ih => rw [rep_succ, ih, Nat.succ_mul, Nat.add_comm, rep_add]
theorem rep_nth {t p : Nat} {l : List Int} (h : p < t * l.length) : (rep t l)[p]? = l[p % l.length]? := by
  have hl : 0 < l.length := by
    by_cases z : l.length = 0
    · rw [z] at h; omega
    · omega
  have hq : p / l.length < t := (Nat.div_lt_iff_lt_mul hl).mpr h
  obtain ⟨d, hd⟩ : ∃ d, t = p / l.length + (d + 1) := ⟨t - p / l.length - 1, by omega⟩
  have e := Nat.div_add_mod p l.length
  rw [Nat.mul_comm] at e
  have hr := Nat.mod_lt p hl
  conv => lhs; rw [hd]
  rw [rep_add, rep_succ, List.getElem?_append_right (by rw [rep_length]; omega), rep_length]
  have e2 : p - p / l.length * l.length = p % l.length := by omega
  rw [e2, List.getElem?_append_left hr]
theorem gcd_round {α : Type} (f : Nat → α) : ∀ (n m : Nat), (∀ i, f (i + n) = f i) → (∀ i, f (i + m) = f i) → ∀ i, f (i + Nat.gcd n m) = f i := by
  have key : ∀ (s n m : Nat), n + m ≤ s → (∀ i, f (i + n) = f i) → (∀ i, f (i + m) = f i) → ∀ i, f (i + Nat.gcd n m) = f i := by
    intro s
    induction s with
    | zero =>
      intro n m h hn hm i
      have e1 : n = 0 := by omega
      have e2 : m = 0 := by omega
      subst e1 e2
      rfl
    | succ s ih =>
      intro n m h hn hm i
      by_cases c1 : n = 0
      · subst c1
        rw [Nat.gcd_zero_left]
        exact hm i
      · by_cases c2 : m = 0
        · subst c2
          rw [Nat.gcd_zero_right]
          exact hn i
        · by_cases c : n ≤ m
          · have e : Nat.gcd n m = Nat.gcd n (m - n) := (Nat.gcd_sub_self_right c).symm
            rw [e]
            exact ih n (m - n) (by omega) hn (fun i => by
              rw [← hm i, ← hn (i + (m - n))]
              congr 1
              omega) i
          · have e : Nat.gcd n m = Nat.gcd (n - m) m := (Nat.gcd_sub_self_left (by omega)).symm
            rw [e]
            exact ih (n - m) m (by omega) (fun i => by
              rw [← hn i, ← hm (i + (n - m))]
              congr 1
              omega) hm i
  exact fun n m => key (n + m) n m (Nat.le_refl _)
/-- a word that is no shorter word told several times -/
def Prim (y : List Int) : Prop := 0 < y.length ∧ ∀ d, 0 < d → d ∣ y.length → per y d → d = y.length
theorem Prim.least {y : List Int} (hy : Prim y) {t n : Nat} (ht : 1 ≤ t) (hn : 0 < n) (hd : n ∣ t * y.length) (h : per (rep t y) n) : y.length ≤ n := by
  obtain ⟨h0, h1⟩ := hy
  obtain ⟨q, hq⟩ := hd
  have hL : 0 < t * y.length := Nat.mul_pos (by omega) h0
  have e := per_rep q (rep t y) n (by rw [rep_length, hq, Nat.mul_comm]) h
  have ln : ((rep t y).take n).length = n := by
    rw [List.length_take, rep_length, hq]
    have : n ≤ n * q := Nat.le_mul_of_pos_right n (by
      by_cases z : q = 0
      · subst z; omega
      · omega)
    omega
  have f1 : ∀ i, y[(i + n) % y.length]? = y[i % y.length]? := fun i => by
    have a1 : ∀ j, y[j % y.length]? = (rep t y)[j % (t * y.length)]? := fun j => by
      rw [rep_nth (Nat.mod_lt _ hL), Nat.mod_mod_of_dvd _ ⟨t, Nat.mul_comm _ _⟩]
    have a2 : ∀ j, (rep t y)[j % (t * y.length)]? = ((rep t y).take n)[j % n]? := fun j => by
      conv => lhs; rw [e]
      rw [rep_nth (by rw [ln, Nat.mul_comm q n, ← hq]; exact Nat.mod_lt _ hL), ln, hq, Nat.mod_mod_of_dvd _ ⟨q, rfl⟩]
    rw [a1, a2, a1 i, a2 i, Nat.add_mod_right]
  have f2 : ∀ i, y[(i + y.length) % y.length]? = y[i % y.length]? := fun i => by rw [Nat.add_mod_right]
  have f3 := gcd_round (fun i => y[i % y.length]?) n y.length f1 f2
  have gd : Nat.gcd n y.length ∣ y.length := Nat.gcd_dvd_right n y.length
  have gp : 0 < Nat.gcd n y.length := Nat.gcd_pos_of_pos_left _ hn
  have gl : Nat.gcd n y.length ≤ y.length := Nat.le_of_dvd h0 gd
  have pp : per y (Nat.gcd n y.length) := by
    unfold per
    apply List.ext_getElem?
    intro i
    by_cases c : i < y.length - Nat.gcd n y.length
    · rw [List.getElem?_take_of_lt c, List.getElem?_drop, Nat.add_comm]
      have := f3 i
      rw [Nat.mod_eq_of_lt (show i < y.length by omega), Nat.mod_eq_of_lt (show i + Nat.gcd n y.length < y.length by omega)] at this
      exact this.symm
    · rw [List.getElem?_eq_none (by rw [List.length_take]; omega), List.getElem?_eq_none (by rw [List.length_drop]; omega)]
  have := h1 _ gp gd pp
  rw [← this]
  exact Nat.le_of_dvd hn (Nat.gcd_dvd_left n y.length)
/-- a word with just one mark of a sort -/
theorem one_least {B : List Int} {c : Int} (hc : B.count c = 1) {t n : Nat} (ht : 1 ≤ t) (hn : 0 < n) (hd : n ∣ t * B.length) (h : per (rep t B) n) : B.length ≤ n := by
  obtain ⟨q, hq⟩ := hd
  have e := per_rep q (rep t B) n (by rw [rep_length, hq, Nat.mul_comm]) h
  have k := congrArg (List.count c) e
  rw [rep_count, rep_count, hc, Nat.mul_one] at k
  have hx : 1 ≤ ((rep t B).take n).count c := by
    by_cases z : ((rep t B).take n).count c = 0
    · rw [z, Nat.mul_zero] at k; omega
    · omega
  have hqt : q ≤ t := by
    rw [k]
    exact Nat.le_mul_of_pos_right q hx
  have h1 : t * B.length ≤ t * n := by
    rw [hq, Nat.mul_comm]
    exact Nat.mul_le_mul_right n hqt
  exact Nat.le_of_mul_le_mul_left h1 (by omega)
/-! ### what commutes -/
theorem comm_rep (a b : Nat) (x : List Int) : rep a x ++ rep b x = rep b x ++ rep a x := by rw [← rep_add, ← rep_add, Nat.add_comm]
theorem comm_count (c : Int) : ∀ (s : Nat) (u v : List Int), u.length + v.length ≤ s → u ++ v = v ++ u → v.length * u.count c = u.length * v.count c := by
  intro s
  induction s with
  | zero =>
    intro u v h _
    have e1 : u = [] := List.eq_nil_of_length_eq_zero (by omega)
    have e2 : v = [] := List.eq_nil_of_length_eq_zero (by omega)
    subst e1 e2
    rfl
  | succ s ih =>
    intro u v h e
    by_cases c1 : u = []
    · subst c1; simp
    · by_cases c2 : v = []
      · subst c2; simp
      · have p1 := List.length_pos_iff.mpr c1
        have p2 := List.length_pos_iff.mpr c2
        by_cases hl : u.length ≤ v.length
        · obtain ⟨w, rfl⟩ : ∃ w, v = u ++ w := by
            have := congrArg (·.take u.length) e
            simp only [List.take_left] at this
            rw [List.take_append_of_le_length hl] at this
            exact ⟨v.drop u.length, by
              have q := List.take_append_drop u.length v
              rw [← this] at q
              exact q.symm⟩
          have e2 : u ++ w = w ++ u := by
            rw [List.append_assoc] at e
            exact List.append_cancel_left e
          have k := ih u w (by rw [List.length_append] at h; omega) e2
          rw [List.length_append, List.count_append, Nat.add_mul, Nat.mul_add, k]
        · obtain ⟨w, rfl⟩ : ∃ w, u = v ++ w := by
            have := congrArg (·.take v.length) e
            simp only [List.take_left] at this
            rw [List.take_append_of_le_length (by omega)] at this
            exact ⟨u.drop v.length, by
              have q := List.take_append_drop v.length u
              rw [this] at q
              exact q.symm⟩
          have e2 : w ++ v = v ++ w := by
            rw [List.append_assoc] at e
            exact List.append_cancel_left e
          have k := ih w v (by rw [List.length_append] at h; omega) e2
          rw [List.length_append, List.count_append, Nat.add_mul, Nat.mul_add, k]
theorem comm_eq (c : Int) {u v : List Int} (e : u ++ v = v ++ u) : v.length * u.count c = u.length * v.count c := comm_count c _ u v (Nat.le_refl _) e
/-- one mark changed -/
theorem bent_count {v : List Int} {p : Nat} {c m : Int} (h : v[p]? = some c) (hm : m ≠ c) : (v.take p ++ ([m] ++ v.drop (p + 1))).count c + 1 = v.count c := by
  obtain ⟨hl, e⟩ := List.getElem?_eq_some_iff.mp h
  have : v.count c = (v.take p).count c + (v.drop p).count c := by rw [← List.count_append, List.take_append_drop]
  rw [this, List.drop_eq_getElem_cons hl, e, List.count_cons_self, List.count_append, List.count_append]
  have : [m].count c = 0 := List.count_eq_zero.mpr (by simp; exact fun z => hm z.symm)
  rw [this]
  omega
theorem bent_len {v : List Int} {p : Nat} {c m : Int} (h : v[p]? = some c) : (v.take p ++ ([m] ++ v.drop (p + 1))).length = v.length := by
  obtain ⟨hl, e⟩ := List.getElem?_eq_some_iff.mp h
  simp
  omega
theorem bent_not {y : List Int} {a b p : Nat} {c m : Int} (ha : 1 ≤ a) (hy : 0 < y.length) (h : (rep b y)[p]? = some c) (hm : m ≠ c) : rep a y ++ ((rep b y).take p ++ ([m] ++ (rep b y).drop (p + 1))) ≠ ((rep b y).take p ++ ([m] ++ (rep b y).drop (p + 1))) ++ rep a y := by
  intro e
  have k := comm_eq c e
  rw [bent_len h] at k
  have k2 := comm_eq c (comm_rep a b y)
  have bc := bent_count h hm
  rw [k2] at k
  have hl : 0 < (rep a y).length := by rw [rep_length]; exact Nat.mul_pos (by omega) hy
  have := Nat.eq_of_mul_eq_mul_left hl k
  omega
theorem longer_not {B : List Int} {a b : Nat} {c d : Int} (ha : 1 ≤ a) (hc : B.count c = 1) (hd : d ≠ c) : rep a B ++ (rep b B ++ [d]) ≠ (rep b B ++ [d]) ++ rep a B := by
  intro e
  have k := comm_eq c e
  have : [d].count c = 0 := List.count_eq_zero.mpr (by simp; exact fun z => hd z.symm)
  rw [List.length_append, List.count_append, rep_length, rep_length, rep_count, rep_count, hc, this, List.length_singleton, Nat.mul_one, Nat.mul_one, Nat.add_mul, Nat.one_mul, Nat.add_zero] at k
  have : a * B.length * b = b * B.length * a := by
    rw [Nat.mul_right_comm, Nat.mul_comm a b, Nat.mul_right_comm]
  omega
end Rw
set_option linter.all false
set_option maxRecDepth 100000
set_option maxHeartbeats 4000000
namespace Wk
open PySem L2 Dl Rw
variable {g : G}
def ulD : Option Nat → D
  | none => .non
  | some k => .int (k : Nat)
/-! ### two rounds -/
theorem part_loopS (l v : List Int) (a b many : Nat) (hl : 0 < l.length) (hv : 0 < v.length) : ∀ (n i s : Nat), s < n → (∀ k, i ≤ k → k < i + s → l[(a + k) % l.length]? = v[(b + k) % v.length]?) → l[(a + (i + s)) % l.length]? ≠ v[(b + (i + s)) % v.length]? →
    loopF (bOne (bName 5)) [5] partB (rgD (i : Int) 1 n) [.im (marksD l), .im (.int a), .im (marksD v), .im (.int b), .im (.int many), .no] g = .ok (.rt (.int ((i + s : Nat) : Int))) g
  | 0, _, _, h, _, _ => absurd h (Nat.not_lt_zero _)
  | n + 1, i, s, hs, h, hne => by
    have la : (a + i) % l.length < l.length := Nat.mod_lt _ hl
    have lb : (b + i) % v.length < v.length := Nat.mod_lt _ hv
    obtain ⟨m1, h1⟩ : ∃ m, l[(a + i) % l.length]? = some m := ⟨_, List.getElem?_eq_getElem la⟩
    obtain ⟨m2, h2⟩ : ∃ m, v[(b + i) % v.length]? = some m := ⟨_, List.getElem?_eq_getElem lb⟩
    have e1 := ix_mod (g := g) l (a + i) m1 h1
    have e2 := ix_mod (g := g) v (b + i) m2 h2
    rw [show ((a + i : Nat) : Int) = (a : Int) + (i : Int) by omega] at e1
    rw [show ((b + i : Nat) : Int) = (b : Int) + (i : Int) by omega] at e2
    rw [show rgD (i : Int) 1 (n + 1) = .one (.int (i : Int)) :: rgD ((i : Int) + 1) 1 n from rfl, loop_step (ρ1 := [.im (marksD l), .im (.int a), .im (marksD v), .im (.int b), .im (.int many), .im (.int (i : Int))]) (by simp)]
    cases s with
    | zero =>
      have hne' : m1 ≠ m2 := fun e => hne (by rw [Nat.add_zero, h1, h2, e])
      have e3 : partB [.im (marksD l), .im (.int a), .im (marksD v), .im (.int b), .im (.int many), .im (.int (i : Int))] g = .ok (.rt (.int (i : Int))) g := by
        simp only [ar_int] at e1 e2
        simp [marksD]
        rw [e1]
        simp
        rw [e2]
        simp [hne']
      rw [e3]
      rfl
    | succ s =>
      have hm : m1 = m2 := by
        have := h i (Nat.le_refl _) (by omega)
        rw [h1, h2] at this
        exact Option.some.inj this
      subst hm
      have ih := part_loopS l v a b many hl hv n (i + 1) s (by omega) (fun k k1 k2 => h k (by omega) (by omega)) (by rw [show i + 1 + s = i + (s + 1) by omega]; exact hne)
      rw [show ((i + 1 : Nat) : Int) = (i : Int) + 1 by omega, show i + 1 + s = i + (s + 1) by omega] at ih
      have e3 : partB [.im (marksD l), .im (.int a), .im (marksD v), .im (.int b), .im (.int many), .im (.int (i : Int))] g = .ok (.nx [.im (marksD l), .im (.int a), .im (marksD v), .im (.int b), .im (.int many), .im (.int (i : Int))]) g := by
        simp only [ar_int] at e1 e2
        simp [marksD]
        rw [e1]
        simp
        rw [e2]
        simp
      rw [e3, turn_nx]
      exact ih
def Prt (l v : List Int) (a b many : Nat) : Option Nat → Prop
  | none => ∀ k, k < many → l[(a + k) % l.length]? = v[(b + k) % v.length]?
  | some s => s < many ∧ (∀ k, k < s → l[(a + k) % l.length]? = v[(b + k) % v.length]?) ∧ l[(a + s) % l.length]? ≠ v[(b + s) % v.length]?
theorem first_of (P : Nat → Prop) [DecidablePred P] (n : Nat) : (∀ k, k < n → P k) ∨ ∃ s, s < n ∧ (∀ k, k < s → P k) ∧ ¬ P s := by
  induction n with
  | zero => exact .inl fun k h => absurd h (Nat.not_lt_zero _)
  | succ n ih =>
    rcases ih with h | ⟨s, h1, h2, h3⟩
    · by_cases c : P n
      · exact .inl fun k hk => by
          by_cases e : k = n
          · rw [e]; exact c
          · exact h k (by omega)
      · exact .inr ⟨n, by omega, h, c⟩
    · exact .inr ⟨s, by omega, h2, h3⟩
theorem parting_ok (l v : List Int) (a b many : Nat) (hl : l.length ≤ 60) (hv : v.length ≤ 60) (l0 : 0 < l.length) (v0 : 0 < v.length) :
    ∃ o, Prt l v a b many o ∧ F_parting_within [marksD l, .int a, marksD v, .int b, .int many] g = .ok (ulD o) g := by
  rcases first_of (fun k => l[(a + k) % l.length]? = v[(b + k) % v.length]?) many with h | ⟨s, h1, h2, h3⟩
  · refine ⟨none, h, parting_none l v a b many hl hv fun k hk => ?_⟩
    have lt : (a + k) % l.length < l.length := Nat.mod_lt _ l0
    exact ⟨_, List.getElem?_eq_getElem lt, by rw [← h k hk, List.getElem?_eq_getElem lt]⟩
  · have hs : s < l.length + v.length := by
      by_cases c : s < l.length + v.length
      · exact c
      · exfalso
        exact h3 (rounds_alike (fun k => l[(a + k) % l.length]?) (fun k => v[(b + k) % v.length]?) l.length v.length 0 l0 v0 (fun i => by rw [← Nat.add_assoc, Nat.add_mod_right]) (fun i => by rw [← Nat.add_assoc, Nat.add_mod_right]) (fun i hi => h2 i (by omega)) s)
    refine ⟨some s, ⟨h1, h2, h3⟩, ?_⟩
    obtain ⟨n, hn⟩ : ∃ n : Nat, min (many : Int) ((l.length : Int) + (v.length : Int)) = (n : Int) := ⟨(min (many : Int) ((l.length : Int) + (v.length : Int))).toNat, by omega⟩
    have q := part_loopS (g := g) l v a b many l0 v0 n 0 s (by omega) (fun k _ k2 => h2 k (by omega)) (by rw [Nat.zero_add]; exact h3)
    have hss : smallI (n : Int) = true := small_lit _ (by omega)
    rw [show ((0 : Nat) : Int) = 0 from rfl, Nat.zero_add] at q
    simp only [marksD] at q
    simp [F_parting_within, bodyF, entry, m_parting_within, marksD, hn, hss, q, ulD]
/-! ### two rows -/
theorem un_turnS (p r : Row) (i j a b pl many s : Nat) (x y : List Int × Int) (hx : Bk x) (hy : Bk y) (hi : p[i]? = some x) (hj : r[j]? = some y) (ha : a < bsz x) (hb : b < bsz y) (hm : many = min (bsz x - a) (bsz y - b))
    (hn : Prt x.1 y.1 a b many (some s)) : unB (unE p r i j a b pl) g = .ok (.rt (.int ((pl + s : Nat) : Int))) g := by
  have h1 := mul_size hx
  have h2 := mul_size hy
  have e1 := row_ix (g := g) p i x hi
  have e2 := row_ix (g := g) r j y hj
  obtain ⟨o, ho, e3⟩ := parting_ok (g := g) x.1 y.1 a b many hx.few hy.few hx.one hy.one
  have : o = some s := by
    cases o with
    | none => exact absurd (ho s hn.1) hn.2.2
    | some s' =>
      rcases Nat.lt_trichotomy s s' with h | h | h
      · exact absurd (ho.2.1 s h) hn.2.2
      · rw [h]
      · exact absurd (hn.2.1 s' h) ho.2.2
  subst this
  have e4 : min (((bsz x : Nat) : Int) - (a : Int)) (((bsz y : Nat) : Int) - (b : Int)) = (many : Int) := by omega
  simp only [marksD, ulD] at e3
  simp [unE, e1, e2, blkD, marksD, h1, h2, e4, e3]
theorem un_all (p r : Row) (hp : Bks p) (hr : Bks r) : ∀ (m i j a b pl fu : Nat), (p.length - i) + (r.length - j) ≤ m → m < fu → i ≤ p.length → j ≤ r.length → (∀ x, p[i]? = some x → a < bsz x) → (∀ y, r[j]? = some y → b < bsz y) → (i = p.length → a = 0) → (j = r.length → b = 0) →
    (∃ k, Ul ((wd (p.drop i)).drop a) ((wd (r.drop j)).drop b) (some k) ∧ whileF unC [7, 8, 9, 10, 11, 12] unB fu (unE p r i j a b pl) g = .ok (.rt (.int ((pl + k : Nat) : Int))) g) ∨
    ∃ i' j' a' b' k : Nat, Ul ((wd (p.drop i)).drop a) ((wd (r.drop j)).drop b) (if i' = p.length ∧ j' = r.length then none else some k) ∧ whileF unC [7, 8, 9, 10, 11, 12] unB fu (unE p r i j a b pl) g = .ok (.nx (unE p r i' j' a' b' (pl + k))) g := by
  intro m
  induction m with
  | zero =>
    intro i j a b pl fu hm hf hi hj _ _ a0 b0
    obtain ⟨fu, rfl⟩ : ∃ n, fu = n + 1 := ⟨fu - 1, by omega⟩
    have e1 : i = p.length := by omega
    have e2 : j = r.length := by omega
    subst e1 e2
    refine .inr ⟨p.length, r.length, a, b, 0, ?_, by simp [whileF, unE, rowD]⟩
    rw [if_pos ⟨rfl, rfl⟩, List.drop_length, List.drop_length, a0 rfl, b0 rfl]
    rfl
  | succ m ih =>
    intro i j a b pl fu hm hf hi hj ha hb a0 b0
    obtain ⟨fu, rfl⟩ : ∃ n, fu = n + 1 := ⟨fu - 1, by omega⟩
    by_cases ci : i < p.length
    · obtain ⟨x, hx⟩ : ∃ x, p[i]? = some x := ⟨_, List.getElem?_eq_getElem ci⟩
      have hax := ha x hx
      have bx := hp x (List.mem_of_getElem? hx)
      have w1 := wd_from p i x hx
      by_cases cj : j < r.length
      · obtain ⟨y, hy⟩ : ∃ y, r[j]? = some y := ⟨_, List.getElem?_eq_getElem cj⟩
        have hby := hb y hy
        have bY := hr y (List.mem_of_getElem? hy)
        have w2 := wd_from r j y hy
        obtain ⟨many, hmany⟩ : ∃ many, many = min (bsz x - a) (bsz y - b) := ⟨_, rfl⟩
        have q1 : ∀ k, k < many → ((wd (p.drop i)).drop a)[k]? = x.1[(a + k) % x.1.length]? := fun k hk => by
          rw [List.getElem?_drop, w1, List.getElem?_append_left (by rw [bw_len]; omega)]
          exact rep_at (show a + k < bsz x by omega)
        have q2 : ∀ k, k < many → ((wd (r.drop j)).drop b)[k]? = y.1[(b + k) % y.1.length]? := fun k hk => by
          rw [List.getElem?_drop, w2, List.getElem?_append_left (by rw [bw_len]; omega)]
          exact rep_at (show b + k < bsz y by omega)
        have cc : unC (unE p r i j a b pl) g = .ok true g := by
          have h1 : (i : Int) < (p.length : Int) := by omega
          have h2 : (j : Int) < (r.length : Int) := by omega
          simp [unE, rowD, h1, h2]
        have stp : whileF unC [7, 8, 9, 10, 11, 12] unB (fu + 1) (unE p r i j a b pl) g = (unB (unE p r i j a b pl) g).turn [7, 8, 9, 10, 11, 12] (whileF unC [7, 8, 9, 10, 11, 12] unB fu) := by
          show ((unC (unE p r i j a b pl) g).bindS (unE p r i j a b pl) fun k g => if k = true then (unB (unE p r i j a b pl) g).turn [7, 8, 9, 10, 11, 12] (whileF unC [7, 8, 9, 10, 11, 12] unB fu) else .ok (.nx (unE p r i j a b pl)) g) = _
          rw [cc, bindS_ok, if_pos rfl]
        obtain ⟨o, ho, _⟩ := parting_ok (g := g) x.1 y.1 a b many bx.few bY.few bx.one bY.one
        cases o with
        | some s =>
          have et := un_turnS (g := g) p r i j a b pl many s x y bx bY hx hy hax hby hmany ho
          refine .inl ⟨s, ⟨fun k hk => ?_, ?_⟩, by rw [stp, et]; rfl⟩
          · rw [q1 k (by have := ho.1; omega), q2 k (by have := ho.1; omega)]
            exact ho.2.1 k hk
          · rw [q1 s ho.1, q2 s ho.1]
            exact ho.2.2
        | none =>
          have hk : ∀ k, k < many → ∃ m, x.1[(a + k) % x.1.length]? = some m ∧ y.1[(b + k) % y.1.length]? = some m := fun k hk => by
            have lt : (a + k) % x.1.length < x.1.length := Nat.mod_lt _ bx.one
            exact ⟨_, List.getElem?_eq_getElem lt, by rw [← ho k hk, List.getElem?_eq_getElem lt]⟩
          obtain ⟨e, he, ee⟩ := un_turn (g := g) p r i j a b pl many x y bx bY hx hy hax hby hmany hk
          have one : a + many = bsz x ∨ b + many = bsz y := by omega
          obtain ⟨i', ei⟩ : ∃ i', i' = (if a + many = bsz x then i + 1 else i) := ⟨_, rfl⟩
          obtain ⟨j', ej⟩ : ∃ j', j' = (if b + many = bsz y then j + 1 else j) := ⟨_, rfl⟩
          obtain ⟨a', ea⟩ : ∃ a', a' = (if a + many = bsz x then 0 else a + many) := ⟨_, rfl⟩
          obtain ⟨b', eb⟩ : ∃ b', b' = (if b + many = bsz y then 0 else b + many) := ⟨_, rfl⟩
          have d1 : (wd (p.drop i')).drop a' = ((wd (p.drop i)).drop a).drop many := by
            rw [List.drop_drop]
            by_cases c : a + many = bsz x
            · rw [ei, ea, if_pos c, if_pos c, List.drop_zero, c, w1, ← bw_len, List.drop_left]
            · rw [ei, ea, if_neg c, if_neg c]
          have d2 : (wd (r.drop j')).drop b' = ((wd (r.drop j)).drop b).drop many := by
            rw [List.drop_drop]
            by_cases c : b + many = bsz y
            · rw [ej, eb, if_pos c, if_pos c, List.drop_zero, c, w2, ← bw_len, List.drop_left]
            · rw [ej, eb, if_neg c, if_neg c]
          have pre : ∀ k, k < many → ((wd (p.drop i)).drop a)[k]? = ((wd (r.drop j)).drop b)[k]? := fun k hk => by
            rw [q1 k hk, q2 k hk]
            exact ho k hk
          have st2 : whileF unC [7, 8, 9, 10, 11, 12] unB (fu + 1) (unE p r i j a b pl) g = whileF unC [7, 8, 9, 10, 11, 12] unB fu (unE p r i' j' a' b' (pl + many)) g := by
            rw [stp, ee, turn_nx, ← ei, ← ej, ← ea, ← eb]
            match e, he with
            | [f1, f2, f3, f4, f5, f6], _ => rfl
          have nx := ih i' j' a' b' (pl + many) fu (by
            rw [ei, ej]
            rcases one with c | c
            · rw [if_pos c]
              split <;> omega
            · rw [if_pos c]
              split <;> omega) (by omega) (by rw [ei]; split <;> omega) (by rw [ej]; split <;> omega) (fun z hz => by
            by_cases c : a + many = bsz x
            · rw [ea, if_pos c]
              exact bsz_pos (hp z (List.mem_of_getElem? hz))
            · rw [ei, if_neg c, hx] at hz
              cases hz
              rw [ea, if_neg c]
              omega) (fun z hz => by
            by_cases c : b + many = bsz y
            · rw [eb, if_pos c]
              exact bsz_pos (hr z (List.mem_of_getElem? hz))
            · rw [ej, if_neg c, hy] at hz
              cases hz
              rw [eb, if_neg c]
              omega) (fun z => by
            by_cases c : a + many = bsz x
            · rw [ea, if_pos c]
            · rw [ei, if_neg c] at z
              omega) (fun z => by
            by_cases c : b + many = bsz y
            · rw [eb, if_pos c]
            · rw [ej, if_neg c] at z
              omega)
          rw [d1, d2] at nx
          rcases nx with ⟨k, u, e2⟩ | ⟨i2, j2, a2, b2, k, u, e2⟩
          · refine .inl ⟨many + k, Ul.more pre u, ?_⟩
            rw [st2, e2, Nat.add_assoc]
          · refine .inr ⟨i2, j2, a2, b2, many + k, ?_, by rw [st2, e2, Nat.add_assoc]⟩
            have := Ul.more pre u
            split at this <;> rename_i c
            · rw [if_pos c]; exact this
            · rw [if_neg c]; exact this
      · have ej : j = r.length := by omega
        subst ej
        refine .inr ⟨i, r.length, a, b, 0, ?_, by simp [whileF, unE, rowD]⟩
        rw [if_neg (fun z => by omega), b0 rfl, List.drop_length]
        refine Ul.zero ?_
        rw [List.getElem?_drop, w1, List.getElem?_append_left (by rw [bw_len]; omega), List.getElem?_eq_getElem (by rw [bw_len]; omega)]
        exact fun z => by cases z
    · have ei : i = p.length := by omega
      subst ei
      by_cases cj : j < r.length
      · obtain ⟨y, hy⟩ : ∃ y, r[j]? = some y := ⟨_, List.getElem?_eq_getElem cj⟩
        have hby := hb y hy
        have w2 := wd_from r j y hy
        refine .inr ⟨p.length, j, a, b, 0, ?_, by simp [whileF, unE, rowD]⟩
        rw [if_neg (fun z => by omega), a0 rfl, List.drop_length]
        refine Ul.zero ?_
        rw [List.drop_zero, w2, List.getElem?_drop, List.getElem?_append_left (by rw [bw_len]; omega), List.getElem?_eq_getElem (l := bw y) (by rw [bw_len]; omega)]
        exact fun z => by cases z
      · have ej : j = r.length := by omega
        subst ej
        refine .inr ⟨p.length, r.length, a, b, 0, ?_, by simp [whileF, unE, rowD]⟩
        rw [if_pos ⟨rfl, rfl⟩, List.drop_length, List.drop_length, a0 rfl, b0 rfl]
        rfl
theorem unlike_ok (p r : Row) (hp : Bks p) (hr : Bks r) (lp : p.length ≤ 1000) (lr : r.length ≤ 1000) : ∃ o, Ul (wd p) (wd r) o ∧ F_unlike_place [rowD p, rowD r] g = .ok (ulD o) g := by
  have un := un_all (g := g) p r hp hr (p.length + r.length) 0 0 0 0 0 fuel (by omega) (by have : fuel = 1000000000000 := rfl; omega) (Nat.zero_le _) (Nat.zero_le _) (fun x hx => bsz_pos (hp x (List.mem_of_getElem? hx))) (fun x hx => bsz_pos (hr x (List.mem_of_getElem? hx))) (fun _ => rfl) (fun _ => rfl)
  rw [List.drop_zero, List.drop_zero, List.drop_zero, List.drop_zero] at un
  rcases un with ⟨k, u, e⟩ | ⟨i', j', a', b', k, u, e⟩
  · have w : sWhile unC [7, 8, 9, 10, 11, 12] unB [.im (rowD p), .im (rowD r), .im (.int 0), .im (.int 0), .im (.int 0), .im (.int 0), .im (.int 0), .no, .no, .no, .no, .no, .no] g = .ok (.rt (.int ((0 + k : Nat) : Int))) g := e
    rw [Nat.zero_add] at w
    refine ⟨some k, u, ?_⟩
    generalize hW : sWhile unC [7, 8, 9, 10, 11, 12] unB = W at w
    show fin (m_unlike_place (entry 13 [rowD p, rowD r]) g) = _
    unfold m_unlike_place
    rw [hW]
    simp only [rowD] at w
    simp [entry, w, rowD, ulD]
  · have w : sWhile unC [7, 8, 9, 10, 11, 12] unB [.im (rowD p), .im (rowD r), .im (.int 0), .im (.int 0), .im (.int 0), .im (.int 0), .im (.int 0), .no, .no, .no, .no, .no, .no] g = .ok (.nx (unE p r i' j' a' b' (0 + k))) g := e
    rw [Nat.zero_add] at w
    refine ⟨_, u, ?_⟩
    generalize hW : sWhile unC [7, 8, 9, 10, 11, 12] unB = W at w
    show fin (m_unlike_place (entry 13 [rowD p, rowD r]) g) = _
    unfold m_unlike_place
    rw [hW]
    simp only [unE, rowD] at w
    by_cases c1 : i' = p.length
    · by_cases c2 : j' = r.length
      · simp [entry, w, rowD, ulD, c1, c2]
      · have c2' : ¬ (j' : Int) = (r.length : Int) := by omega
        simp [entry, w, rowD, ulD, c1, c2, c2']
    · have c1' : ¬ (i' : Int) = (p.length : Int) := by omega
      simp [entry, w, rowD, ulD, c1, c1']
theorem unlike_is (p r : Row) (hp : Bks p) (hr : Bks r) (lp : p.length ≤ 1000) (lr : r.length ≤ 1000) {o : Option Nat} (h : Ul (wd p) (wd r) o) : F_unlike_place [rowD p, rowD r] g = .ok (ulD o) g := by
  obtain ⟨o', h', e⟩ := unlike_ok (g := g) p r hp hr lp lr
  rw [h.uniq h', e]
theorem unlike_eq (p r : Row) (hp : Bks p) (hr : Bks r) (lp : p.length ≤ 1000) (lr : r.length ≤ 1000) : (∃ d, F_unlike_place [rowD p, rowD r] g = .ok d g ∧ d.isNon = decide (wd p = wd r)) := by
  obtain ⟨o, h, e⟩ := unlike_ok (g := g) p r hp hr lp lr
  refine ⟨_, e, ?_⟩
  cases o with
  | none =>
    have h : wd p = wd r := h
    rw [h]
    simp [ulD]
  | some k =>
    have : ¬ wd p = wd r := fun z => h.2 (by rw [z])
    simp [ulD, this]
end Wk
set_option linter.all false
set_option maxRecDepth 100000
set_option maxHeartbeats 4000000
namespace Wk
open PySem L2 Dl Rw
variable {g : G}
/-! ### a row written anew -/
theorem sl_to (l : List Int) (s : Nat) : slF (marksD l) none (some (s : Int)) g = .ok (marksD (l.take s)) g := by
  show Re.ok (D.tup (cutA (l.map D.int) _ _)) g = _
  rw [cutA_map, cutA_to]
  rfl
theorem sl_from (l : List Int) (s : Nat) : slF (marksD l) (some (s : Int)) none g = .ok (marksD (l.drop s)) g := by
  show Re.ok (D.tup (cutA (l.map D.int) _ _)) g = _
  rw [cutA_map, cutA_from]
  rfl
theorem add_marks (a b : List Int) (ha : a.length ≤ 100) (hb : b.length ≤ 100) : addD (marksD a) (marksD b) g = .ok (marksD (a ++ b)) g := by
  unfold marksD
  rw [add_tup, List.length_map, List.length_map, if_pos (by show a.length + b.length ≤ 1000000; omega), List.map_append]
theorem rep_half (t : Nat) (l : List Int) : rep t l = rep (t / 2) (l ++ l) ++ (if t % 2 = 1 then l else []) := by
  have e : rep 2 l = l ++ l := by rw [rep_succ, rep_one]
  rw [← e, rep_mul]
  have h := Nat.div_add_mod t 2
  rw [Nat.mul_comm] at h
  rcases Nat.mod_two_eq_zero_or_one t with c | c
  · rw [c, if_neg (by decide), List.append_nil]
    rw [c] at h
    congr 1
    omega
  · rw [c, if_pos rfl]
    rw [c] at h
    conv => lhs; rw [← h, rep_add, rep_one]
theorem rep_turn (t : Nat) (a b : List Int) : rep (t + 1) (a ++ b) = a ++ (rep t (b ++ a) ++ b) := by
  induction t with
  | zero => rw [rep_one]; rfl
  | succ t ih => rw [rep_succ, ih, rep_succ (l := b ++ a)]; simp only [List.append_assoc]
abbrev rewB : Ms := (sSeq (sPar 5 6 (zIm (eCall 2 F__law_draw (aCons (eVar 0) (aCons (eC (.int 4)) aNil))) (zIm (eArgs lenF (aCons (eVar 3) aNil)) zNil))) (sIf (tAndM (asB (eOp eqF (eVar 5) (eC (.int 0)))) (asB (eOp gtF (eVar 4) (eC (.int 1))))) (sSeq (sSet 7 (eOp addD (eC (.int 1)) (eCall 2 F__law_below (aCons (eVar 0) (aCons (eOp (arI subI) (eVar 4) (eC (.int 1))) aNil))))) (sOwn 2 (eOp catL (eBor 2) (eLst (eList (aCons (eTup (aCons (eVar 3) (aCons (eVar 7) aNil))) (aCons (eTup (aCons (eVar 3) (aCons (eOp (arI subI) (eVar 4) (eVar 7)) aNil))) aNil))))))) (sIf (tAndM (asB (eOp eqF (eVar 5) (eC (.int 1)))) (tAndM (asB (eOp gtF (eVar 4) (eC (.int 1)))) (asB (eOp leF (eVar 6) (eC (.int 30)))))) (sOwn 2 (eOp catL (eOp addD (eBor 2) (eLst (eList (aCons (eTup (aCons (eOp addD (eVar 3) (eVar 3)) (aCons (eOp (arI divI) (eVar 4) (eC (.int 2))) aNil))) aNil)))) (eIf (asB (eOp eqF (eOp (arI modI) (eArgs intF (aCons (eVar 4) aNil)) (eC (.int 2))) (eC (.int 1)))) (eLst (eList (aCons (eTup (aCons (eVar 3) (aCons (eC (.int 1)) aNil))) aNil))) (eLst (eList aNil))))) (sIf (tAndM (asB (eOp eqF (eVar 5) (eC (.int 2)))) (tAndM (asB (eOp gtF (eVar 4) (eC (.int 1)))) (asB (eOp gtF (eVar 6) (eC (.int 1)))))) (sSeq (sSet 8 (eOp addD (eC (.int 1)) (eCall 2 F__law_draw (aCons (eVar 0) (aCons (eOp (arI subI) (eVar 6) (eC (.int 1))) aNil))))) (sOwn 2 (eOp catL (eBor 2) (eLst (eList (aCons (eTup (aCons (eSl slF (eVar 3) oNone (oSome (eVar 8))) (aCons (eC (.int 1)) aNil))) (aCons (eTup (aCons (eOp addD (eSl slF (eVar 3) (oSome (eVar 8)) oNone) (eSl slF (eVar 3) oNone (oSome (eVar 8)))) (aCons (eOp (arI subI) (eVar 4) (eC (.int 1))) aNil))) (aCons (eTup (aCons (eSl slF (eVar 3) (oSome (eVar 8)) oNone) (aCons (eC (.int 1)) aNil))) aNil)))))))) (sApp 2 (eTup (aCons (eVar 3) (aCons (eVar 4) aNil))))))))
abbrev rewE (d1 : D) (p : Row) (x : List Int × Int) (t : List Sl) : Dl.Env := .im .hdl :: .im d1 :: .ow (p.map blkD) :: .im (marksD x.1) :: .im (.int x.2) :: t
theorem rew_pack {d1 : D} {p : Row} {x : List Int × Int} {k : Nat} (q : Row) {g' : G} {a b c d : Sl} (hq : Bks q) (ql : q.length ≤ 3) (qw : wd q = bw x) (hg : Gk (k + 10) g')
    (e : rewB (rewE d1 p x [.no, .no, .no, .no]) g = .ok (.nx (rewE d1 (p ++ q) x [a, b, c, d])) g') :
    ∃ (q : Row) (g' : G) (t : List Sl), Bks q ∧ q.length ≤ 3 ∧ wd q = bw x ∧ Gk (k + 10) g' ∧ t.length = 4 ∧ rewB (rewE d1 p x [.no, .no, .no, .no]) g = .ok (.nx (rewE d1 (p ++ q) x t)) g' := ⟨q, g', _, hq, ql, qw, hg, rfl, e⟩
theorem bks_one {x : List Int × Int} (h : Bk x) : Bks [x] := fun y hy => by
  rw [List.mem_singleton] at hy
  subst hy
  exact h
theorem bks_app {p q : Row} (hp : Bks p) (hq : Bks q) : Bks (p ++ q) := fun y hy => by
  rcases List.mem_append.mp hy with h | h
  · exact hp y h
  · exact hq y h
theorem rew_turn (d1 : D) (p : Row) (x : List Int × Int) (k : Nat) (hg : Gk k g) (hk : k ≤ 10 ^ 6) (hx : Bk x) (hp : p.length ≤ 1000) :
    ∃ (q : Row) (g' : G) (t : List Sl), Bks q ∧ q.length ≤ 3 ∧ wd q = bw x ∧ Gk (k + 10) g' ∧ t.length = 4 ∧ rewB (rewE d1 p x [.no, .no, .no, .no]) g = .ok (.nx (rewE d1 (p ++ q) x t)) g' := by
  obtain ⟨l, t⟩ := x
  obtain ⟨kd, g1, e1, k0, k1, hg1⟩ := F__law_draw_ok k 4 hg (by omega) (by decide) (by decide)
  have lm : ∀ g : G, lenF [marksD l] g = .ok (.int l.length) g := fun g => by
    unfold marksD
    rw [len_tup, List.length_map]
  have o1 : 1 ≤ l.length := hx.one
  have o2 : l.length ≤ 60 := hx.few
  have o3 : ∀ m ∈ l, 0 ≤ m ∧ m ≤ 3 := hx.mks
  have o4 : 1 ≤ t := hx.pos
  have o5 : t ≤ 10 ^ 30 := hx.top
  have hz1 : p.length + 1 + 1 ≤ 1000000 := by omega
  have hz2 : p.length + 2 ≤ 1000000 := by omega
  have hz3 : p.length + 3 ≤ 1000000 := by omega
  have hz4 : p.length + 1 ≤ 1000000 := by omega
  have hz5 : p.length < 1000000 := by omega
  have bwx : bw (l, t) = rep t.toNat l := rfl
  by_cases t1 : 1 < t
  · by_cases c0 : kd = 0
    · subst c0
      obtain ⟨v, g2, e2, v0, v1, hg2⟩ := F__law_below_ok (k + 1) (t - 1) hg1 (by omega) (by omega)
      apply rew_pack (a := .im (.int 0)) (b := .im (.int l.length)) (c := .im (.int (1 + v))) (d := .no) (q := [(l, 1 + v), (l, t - (1 + v))]) (g' := g2) (k := k)
      · intro y hy
        simp only [List.mem_cons, List.not_mem_nil, or_false] at hy
        rcases hy with rfl | rfl
        · exact ⟨o1, o2, o3, by show 1 ≤ 1 + v; omega, by show 1 + v ≤ 10 ^ 30; omega⟩
        · exact ⟨o1, o2, o3, by show 1 ≤ t - (1 + v); omega, by show t - (1 + v) ≤ 10 ^ 30; omega⟩
      · simp
      · rw [wd_cons, wd_one, bwx]
        show rep (1 + v).toNat l ++ rep (t - (1 + v)).toNat l = _
        rw [← rep_add]
        congr 1
        omega
      · exact hg2.mono (by omega)
      · have t1' : 1 < t := t1
        simp [e1, lm, t1, e2, hz2, blkD]
    · by_cases c1 : kd = 1 ∧ l.length ≤ 30
      · obtain ⟨rfl, l30⟩ := c1
        have dv : divI t 2 = some (t / 2) := divI_ok (by decide) (by decide +kernel)
        have md : modI t 2 = some (t % 2) := modI_ok (by decide)
        have l30' : (l.length : Int) ≤ 30 := by omega
        have am := add_marks (g := g1) l l (by omega) (by omega)
        obtain ⟨tn, rfl⟩ : ∃ tn : Nat, t = (tn : Int) := ⟨t.toNat, by omega⟩
        have e2 : ((tn : Int) / 2) = ((tn / 2 : Nat) : Int) := rfl
        have e3 : ((tn : Int) % 2) = ((tn % 2 : Nat) : Int) := rfl
        have hb1 : Bk (l ++ l, ((tn / 2 : Nat) : Int)) := ⟨by show 1 ≤ (l ++ l).length; rw [List.length_append]; omega, by show (l ++ l).length ≤ 60; rw [List.length_append]; omega, fun m hm => by
          rcases List.mem_append.mp hm with h | h
          · exact o3 m h
          · exact o3 m h, by show (1 : Int) ≤ ((tn / 2 : Nat) : Int); omega, by show ((tn / 2 : Nat) : Int) ≤ 10 ^ 30; omega⟩
        have hb2 : Bk (l, 1) := ⟨o1, o2, o3, (by decide : (1 : Int) ≤ 1), (by decide : (1 : Int) ≤ 10 ^ 30)⟩
        have rh := rep_half tn l
        rw [e2] at dv
        rw [e3] at md
        rcases Nat.mod_two_eq_zero_or_one tn with c | c
        · rw [c] at md
          apply rew_pack (a := .im (.int 1)) (b := .im (.int l.length)) (c := .no) (d := .no) (q := [(l ++ l, ((tn / 2 : Nat) : Int))]) (g' := g1) (k := k)
          · exact bks_one hb1
          · simp
          · rw [wd_one, bwx]
            show rep (((tn / 2 : Nat) : Int).toNat) (l ++ l) = rep (tn : Int).toNat l
            rw [Int.toNat_natCast, Int.toNat_natCast, rh, if_neg (by omega), List.append_nil]
          · exact hg1.mono (by omega)
          · have lm1 := lm g1
            simp [e1, lm1, t1, l30', am, dv, md, hz4, hz1, hz5, blkD]
        · rw [c] at md
          apply rew_pack (a := .im (.int 1)) (b := .im (.int l.length)) (c := .no) (d := .no) (q := [(l ++ l, ((tn / 2 : Nat) : Int)), (l, 1)]) (g' := g1) (k := k)
          · exact bks_app (bks_one hb1) (bks_one hb2)
          · simp
          · rw [wd_cons, wd_one, bwx]
            show rep (((tn / 2 : Nat) : Int).toNat) (l ++ l) ++ bw (l, 1) = rep (tn : Int).toNat l
            rw [Int.toNat_natCast, Int.toNat_natCast, rh, if_pos c]
            congr 1
            show rep 1 l = l
            exact rep_one l
          · exact hg1.mono (by omega)
          · have lm1 := lm g1
            simp [e1, lm1, t1, l30', am, dv, md, hz4, hz1, hz5, blkD]
      · by_cases c2 : kd = 2 ∧ 1 < l.length
        · obtain ⟨rfl, l1⟩ := c2
          obtain ⟨v, g2, e2, v0, v1, hg2⟩ := F__law_draw_ok (k + 1) ((l.length : Int) - 1) hg1 (by omega) (by omega) (by omega)
          obtain ⟨s, hs⟩ : ∃ s : Nat, 1 + v = (s : Int) := ⟨(1 + v).toNat, by omega⟩
          have s1 := sl_to (g := g2) l s
          have s2 := sl_from (g := g2) l s
          have am := add_marks (g := g2) (l.drop s) (l.take s) (by rw [List.length_drop]; omega) (by rw [List.length_take]; omega)
          have l1' : (1 : Int) < (l.length : Int) := by omega
          apply rew_pack (a := .im (.int 2)) (b := .im (.int l.length)) (c := .no) (d := .im (.int s)) (q := [(l.take s, 1), (l.drop s ++ l.take s, t - 1), (l.drop s, 1)]) (g' := g2) (k := k)
          · intro y hy
            simp only [List.mem_cons, List.not_mem_nil, or_false] at hy
            rcases hy with rfl | rfl | rfl
            · exact ⟨by show 1 ≤ (l.take s).length; rw [List.length_take]; omega, by show (l.take s).length ≤ 60; rw [List.length_take]; omega, fun m hm => o3 m (List.mem_of_mem_take hm), (by decide : (1 : Int) ≤ 1), (by decide : (1 : Int) ≤ 10 ^ 30)⟩
            · refine ⟨by show 1 ≤ (l.drop s ++ l.take s).length; rw [List.length_append, List.length_drop, List.length_take]; omega, by show (l.drop s ++ l.take s).length ≤ 60; rw [List.length_append, List.length_drop, List.length_take]; omega, fun m hm => ?_, by show 1 ≤ t - 1; omega, by show t - 1 ≤ 10 ^ 30; omega⟩
              rcases List.mem_append.mp hm with h | h
              · exact o3 m (List.mem_of_mem_drop h)
              · exact o3 m (List.mem_of_mem_take h)
            · exact ⟨by show 1 ≤ (l.drop s).length; rw [List.length_drop]; omega, by show (l.drop s).length ≤ 60; rw [List.length_drop]; omega, fun m hm => o3 m (List.mem_of_mem_drop hm), (by decide : (1 : Int) ≤ 1), (by decide : (1 : Int) ≤ 10 ^ 30)⟩
          · simp
          · rw [wd_cons, wd_cons, wd_one, bwx]
            show rep 1 (l.take s) ++ (rep (t - 1).toNat (l.drop s ++ l.take s) ++ rep 1 (l.drop s)) = rep t.toNat l
            rw [rep_one, rep_one, show t.toNat = (t - 1).toNat + 1 by omega, ← rep_turn, List.take_append_drop]
          · exact hg2.mono (by omega)
          · simp [e1, lm, t1, l1', e2, hs, s1, s2, am, hz3, blkD]
        · apply rew_pack (a := .im (.int kd)) (b := .im (.int l.length)) (c := .no) (d := .no) (q := [(l, t)]) (g' := g1) (k := k) (bks_one hx) (by simp) (wd_one _) (hg1.mono (by omega))
          have n1 : ¬ (kd = 1 ∧ (l.length : Int) ≤ 30) := fun z => c1 ⟨z.1, by have := z.2; omega⟩
          have n2 : ¬ (kd = 2 ∧ (1 : Int) < (l.length : Int)) := fun z => c2 ⟨z.1, by have := z.2; omega⟩
          by_cases k1' : kd = 1
          · have n1' : ¬ (l.length : Int) ≤ 30 := fun z => n1 ⟨k1', z⟩
            subst k1'
            simp [e1, lm, t1, n1', hz5, blkD]
          · by_cases k2' : kd = 2
            · have n2' : ¬ (1 : Int) < (l.length : Int) := fun z => n2 ⟨k2', z⟩
              subst k2'
              simp [e1, lm, t1, n2', hz5, blkD]
            · simp [e1, lm, t1, c0, k1', k2', hz5, blkD]
  · apply rew_pack (a := .im (.int kd)) (b := .im (.int l.length)) (c := .no) (d := .no) (q := [(l, t)]) (g' := g1) (k := k) (bks_one hx) (by simp) (wd_one _) (hg1.mono (by omega))
    by_cases c0 : kd = 0
    · subst c0
      simp [e1, lm, t1, hz5, blkD]
    · by_cases c1 : kd = 1
      · subst c1
        simp [e1, lm, t1, hz5, blkD]
      · by_cases c2 : kd = 2
        · subst c2
          simp [e1, lm, t1, hz5, blkD]
        · simp [e1, lm, t1, c0, c1, c2, hz5, blkD]
end Wk
set_option linter.all false
set_option maxRecDepth 100000
set_option maxHeartbeats 4000000
namespace Wk
open PySem L2 Dl Rw
variable {g : G}
theorem rew_loop (d1 : D) : ∀ (r p : Row) (k : Nat) (g : G), Gk k g → k + 10 * r.length ≤ 10 ^ 6 → Bks r → p.length + 3 * r.length ≤ 1000 → Bks p →
    ∃ (q : Row) (g' : G), loopF (bOne (bTup 2 (bCons (bName 3) (bCons (bName 4) bNil)))) [3, 4, 5, 6, 7, 8] rewB (r.map (Yd.one ∘ blkD)) [.im .hdl, .im d1, .ow (p.map blkD), .no, .no, .no, .no, .no, .no] g = .ok (.nx [.im .hdl, .im d1, .ow (q.map blkD), .no, .no, .no, .no, .no, .no]) g' ∧ Bks q ∧ q.length ≤ p.length + 3 * r.length ∧ wd q = wd p ++ wd r ∧ Gk (k + 10 * r.length) g'
  | [], p, k, g, hg, _, _, _, hp => ⟨p, g, rfl, hp, by simp, by rw [wd_nil, List.append_nil], hg⟩
  | x :: r, p, k, g, hg, hk, hr, hl, hp => by
    rw [List.length_cons] at hk hl
    obtain ⟨q, g1, t, hq, ql, qw, hg1, tl, e1⟩ := rew_turn (g := g) d1 p x k hg (by omega) (hr x List.mem_cons_self) (by omega)
    obtain ⟨q2, g2, e2, hq2, ql2, qw2, hg2⟩ := rew_loop d1 r (p ++ q) (k + 10) g1 hg1 (by omega) (fun y hy => hr y (List.mem_cons_of_mem _ hy)) (by rw [List.length_append]; omega) (bks_app hp hq)
    refine ⟨q2, g2, ?_, hq2, by rw [List.length_append] at ql2; rw [List.length_cons]; omega, by rw [qw2, wd_append, qw, wd_cons, List.append_assoc], by rw [List.length_cons]; exact hg2.mono (by omega)⟩
    rw [List.map_cons, loop_step (ρ1 := rewE d1 p x [.no, .no, .no, .no]) (by simp [blkD]), e1]
    match t, tl with
    | [a, b, c, d], _ => exact e2
theorem rewritten_ok (k : Nat) (r : Row) (h : Bks r) (hl : r.length ≤ 100) (hg : Gk k g) (hk : k ≤ 10 ^ 5) : ∃ (q : Row) (g' : G), F__law_rewritten [.hdl, rowD r] g = .ok (rowD q) g' ∧ Bks q ∧ q.length ≤ 3 * r.length ∧ wd q = wd r ∧ Gk (k + 10 * r.length) g' := by
  obtain ⟨q, g1, e1, hq, ql, qw, hg1⟩ := rew_loop (rowD r) r [] k g hg (by omega) h (by simp; omega) (fun y hy => by cases hy)
  refine ⟨q, g1, ?_, hq, by simpa using ql, by rw [qw, wd_nil, List.nil_append], hg1⟩
  rw [List.map_nil] at e1
  simp only [rowD] at e1
  show fin (sSeq (sOwn 2 (eList aNil)) (sSeq (sFor (yVal (eVar 1)) (bOne (bTup 2 (bCons (bName 3) (bCons (bName 4) bNil)))) [3, 4, 5, 6, 7, 8] rewB) (sRet (eArgs tupF (aCons (eBor 2) aNil)))) (entry 9 [.hdl, rowD r]) g) = _
  generalize rewB = RB at e1 ⊢
  simp [entry, e1, rowD]
/-! ### whether a row goes on with a period -/
/-! ### the root -/
def okN (W : List Int) (n : Nat) : Prop := n ∣ W.length ∧ per W n
instance (W : List Int) (n : Nat) : Decidable (okN W n) := by unfold okN; exact inferInstance
theorem dvd_iff (n L : Nat) : L % n = 0 ↔ n ∣ L := (Nat.dvd_iff_mod_eq_zero ..).symm
def okT (W : List Int) (t : Nat) : Prop := t ∣ W.length ∧ per W (W.length / t)
instance (W : List Int) (n : Nat) : Decidable (okT W n) := by unfold okT; exact inferInstance
/-! ### what commutes -/
end Wk
set_option linter.all false
set_option maxRecDepth 100000
set_option maxHeartbeats 4000000
namespace Wk
open PySem L2 Dl Rw
variable {g : G}
def LtM (M : Int) (r : Row) : Prop := ∀ x ∈ r, ∀ m ∈ x.1, m < M
theorem wideM_loop (M : Int) (hM : 1 ≤ M) (hM2 : M ≤ 4) (d2 : D) : ∀ (m : Nat) (lo : Int) (p : Row) (k : Nat) (g : G), Gk k g → k + 100 * m ≤ 10 ^ 6 → Bks p → LtM M p → p.length + m ≤ 1000 →
    ∃ (q : Row) (g' : G), loopF (bOne (bName 4)) [4, 5] wideB (rgD lo 1 m) [.im .hdl, .im (.int M), .im d2, .ow (p.map blkD), .no, .no, .no] g = .ok (.nx [.im .hdl, .im (.int M), .im d2, .ow (q.map blkD), .no, .no, .no]) g' ∧ Bks q ∧ LtM M q ∧ q.length = p.length + m ∧ Gk (k + 100 * m) g'
  | 0, lo, p, k, g, hg, _, hp, hlt, _ => ⟨p, g, rfl, hp, hlt, rfl, hg⟩
  | m + 1, lo, p, k, g, hg, hk, hp, hlt, hl => by
    obtain ⟨r, g1, e1, r0, r1, hg1⟩ := F__law_draw_ok k 6 hg (by omega) (by decide) (by decide)
    obtain ⟨c, hc, hc1, hc2⟩ : ∃ c : Int, c = (if r = 0 then 40 else 6) ∧ 1 ≤ c ∧ c ≤ 40 := by
      refine ⟨_, rfl, ?_, ?_⟩ <;> split <;> decide
    obtain ⟨s, g2, e2, s0, s1, hg2⟩ := F__law_draw_ok (k + 1) c hg1 (by omega) hc1 (by omega)
    obtain ⟨sz, hsz⟩ : ∃ sz : Nat, 1 + s = (sz : Int) := ⟨(1 + s).toNat, by omega⟩
    obtain ⟨l, g3, e3, hll, hlb, hg3⟩ := draws_comp M hM (by omega) (.im d2) (.ow (p.map blkD)) (.im (.int lo)) (.im (.int sz)) sz 0 (k + 2) g2 hg2 (by omega)
    obtain ⟨t, g4, e4, t0, t1, hg4⟩ := F__law_times_ok (k + 2 + sz) hg3 (by omega)
    have hb : Bk (l, t) := ⟨by show 1 ≤ l.length; omega, by show l.length ≤ 60; omega, fun x hx => by have := hlb x hx; omega, t0, t1⟩
    have hp' : Bks (p ++ [(l, t)]) := fun x hx => by
      rcases List.mem_append.mp hx with q | q
      · exact hp x q
      · rw [List.mem_singleton] at q
        subst q
        exact hb
    have hlt2 : LtM M (p ++ [(l, t)]) := fun x hx => by
      rcases List.mem_append.mp hx with q | q
      · exact hlt x q
      · rw [List.mem_singleton] at q
        subst q
        exact fun m hm => (hlb m hm).2
    obtain ⟨q, g5, e5, hq, hqM, hql, hg5⟩ := wideM_loop M hM hM2 d2 m (lo + 1) (p ++ [(l, t)]) (k + 100) g4 (hg4.mono (by omega)) (by omega) hp' hlt2 (by rw [List.length_append, List.length_singleton]; omega)
    refine ⟨q, g5, ?_, hq, hqM, by rw [hql, List.length_append, List.length_singleton]; omega, hg5.mono (by omega)⟩
    have hss : smallI (sz : Int) = true := small_lit _ (by omega)
    have hpl : p.length < 1000000 := by omega
    rw [show rgD lo 1 (m + 1) = .one (.int lo) :: rgD (lo + 1) 1 m from rfl, loop_step (ρ1 := [.im .hdl, .im (.int M), .im d2, .ow (p.map blkD), .im (.int lo), .no, .no]) (by simp)]
    rw [List.map_append] at e5
    have hrl : (rgD 0 1 sz).length ≤ 1000000 := by rw [rgD_length]; omega
    by_cases hr : r = 0
    · subst hr
      rw [if_pos rfl] at hc
      subst hc
      simp [e1, e2, hsz, hss, hrl, e3, e4, hpl]
      simp [blkD, marksD] at e5
      simp [e5]
    · rw [if_neg hr] at hc
      subst hc
      simp [e1, hr, e2, hsz, hss, hrl, e3, e4, hpl]
      simp [blkD, marksD] at e5
      simp [e5]
theorem wideM_ok (k : Nat) (M T : Int) (hT : 1 ≤ T) (hT2 : T ≤ 5) (hg : Gk k g) (hk : k ≤ 10 ^ 4) (hM : 1 ≤ M) (hM2 : M ≤ 4) : ∃ (r : Row) (g' : G), F__law_wide_row [.hdl, .int M, .int T] g = .ok (rowD r) g' ∧ Rk r ∧ LtM M r ∧ 1 ≤ r.length ∧ (r.length : Int) ≤ T ∧ Gk (k + 1000) g' := by
  obtain ⟨s, g1, e1, s0, s1, hg1⟩ := F__law_draw_ok k T hg (by omega) hT (by omega)
  obtain ⟨m, hm⟩ : ∃ m : Nat, 1 + s = (m : Int) := ⟨(1 + s).toNat, by omega⟩
  obtain ⟨r, g2, e2, hr, hrM, hl, hg2⟩ := wideM_loop M hM hM2 (.int T) m 0 [] (k + 1) g1 hg1 (by omega) (fun x hx => by cases hx) (fun x hx => by cases hx) (by simp; omega)
  rw [List.length_nil, Nat.zero_add] at hl
  refine ⟨r, g2, ?_, ⟨by omega, hr⟩, hrM, by omega, by omega, hg2.mono (by omega)⟩
  have hss : smallI (m : Int) = true := small_lit _ (by omega)
  rw [List.map_nil] at e2
  simp [F__law_wide_row, bodyF, entry, m__law_wide_row, e1, hm, hss, e2, rowD]
end Wk
set_option linter.all false
set_option maxRecDepth 100000
set_option maxHeartbeats 4000000
namespace Wk
open PySem L2 Dl Rw
variable {g : G}
def intsD (l : List Int) : D := .lst (l.map D.int)
theorem eqD_ints : ∀ (a b : List Int), eqD (.lst (a.map D.int)) (.lst (b.map D.int)) = decide (a = b)
  | [], [] => rfl
  | [], y :: b => rfl
  | x :: a, [] => rfl
  | x :: a, y :: b => by
    have ih := eqD_ints a b
    have e : eqD (.lst ((x :: a).map D.int)) (.lst ((y :: b).map D.int)) = ((x == y) && eqD (.lst (a.map D.int)) (.lst (b.map D.int))) := rfl
    rw [e, ih]
    by_cases h : x = y
    · simp [h]
    · simp [h]
theorem eq_ints (a b : List Int) : eqF (.lst (a.map D.int)) (.lst (b.map D.int)) g = .ok (.bl (decide (a = b))) g := by
  have d : ∀ l : List Int, dn deep (.lst (l.map D.int)) = true := fun l => dn_ints l 39
  show (if (dn deep (.lst (a.map D.int)) && dn deep (.lst (b.map D.int))) = true then Re.ok (D.bl (eqD (.lst (a.map D.int)) (.lst (b.map D.int)))) g else .bad) = _
  rw [d, d, if_pos (show (true && true) = true from rfl), eqD_ints]
theorem mul_ints (l : List Int) (k : Nat) (h : l.length * k ≤ 1000) (hk : k ≤ 1000) : mulD (.lst (l.map D.int)) (.int (k : Int)) g = .ok (.lst ((rep k l).map D.int)) g := by
  show (if repOk (l.map D.int).length (k : Int) = true then Re.ok (D.lst (List.replicate (k : Int).toNat (l.map D.int)).flatten) g else .bad) = _
  rw [if_pos, Int.toNat_natCast, rep_D]
  unfold repOk
  rw [List.length_map, Int.toNat_natCast]
  exact decide_eq_true ⟨by omega, by omega, by show _ ≤ 1000000; omega⟩
theorem sl_ints (l : List Int) (s : Nat) : slF (.lst (l.map D.int)) none (some (s : Int)) g = .ok (.lst ((l.take s).map D.int)) g := by
  show Re.ok (D.lst (cutA (l.map D.int) _ _)) g = _
  rw [cutA_map, cutA_to]
/-! ### the law's root -/
def told (u : List Int) (n : Nat) : Prop := n ∣ u.length ∧ u = rep (u.length / n) (u.take n)
instance (W : List Int) (n : Nat) : Decidable (told W n) := by unfold told; exact inferInstance
abbrev lrB : Ms := (sIf (tAndM (asB (eOp eqF (eOp (arI modI) (eArgs intF (aCons (eVar 1) aNil)) (eVar 2)) (eC (.int 0)))) (asB (eOp eqF (eVar 0) (eOp mulD (eSl slF (eVar 0) oNone (oSome (eVar 2))) (eOp (arI divI) (eVar 1) (eVar 2)))))) (sRet (eTup (aCons (eVar 2) (aCons (eOp (arI divI) (eVar 1) (eVar 2)) aNil)))) sNil)
theorem lrt1 (UD : D) (L n : Int) (md : modI L n = some 0) : (asB (eOp eqF (eOp (arI modI) (eArgs intF (aCons (eVar 1) aNil)) (eVar 2)) (eC (.int 0)))) [.im UD, .im (.int L), .im (.int n)] g = .ok true g := by
  simp [md]
theorem lrt2 (UD TK RD : D) (L n X : Int) (b : Bool) (dv : divI L n = some X) (s1 : slF UD none (some n) g = .ok TK g) (m1 : mulD TK (.int X) g = .ok RD g) (e1 : eqF UD RD g = .ok (.bl b) g) : (asB (eOp eqF (eVar 0) (eOp mulD (eSl slF (eVar 0) oNone (oSome (eVar 2))) (eOp (arI divI) (eVar 1) (eVar 2))))) [.im UD, .im (.int L), .im (.int n)] g = .ok b g := by
  simp [dv, s1, m1, e1]
theorem lrt3 (UD : D) (L n X : Int) (dv : divI L n = some X) : (sRet (eTup (aCons (eVar 2) (aCons (eOp (arI divI) (eVar 1) (eVar 2)) aNil)))) [.im UD, .im (.int L), .im (.int n)] g = .ok (.rt (.tup [.int n, .int X])) g := by
  simp [dv]
theorem lr_1 (u : List Int) (n : Nat) (h : u.length ≤ 60) (h0 : 0 < n) (hn : n ≤ u.length) : lrB [.im (.lst (u.map D.int)), .im (.int u.length), .im (.int n)] g = (if told u n then .ok (.rt (.tup [.int n, .int (u.length / n : Nat)])) g else .ok (.nx [.im (.lst (u.map D.int)), .im (.int u.length), .im (.int n)]) g) := by
  have md : modI (u.length : Int) (n : Int) = some ((u.length % n : Nat) : Int) := modI_nat h0
  have dv : divI (u.length : Int) (n : Int) = some ((u.length / n : Nat) : Int) := divI_nat h0 (by omega)
  have dd := dvd_iff n u.length
  have q1 := Nat.div_le_self u.length n
  have m1 := mul_ints (g := g) (u.take n) (u.length / n) (by
    rw [List.length_take, Nat.min_eq_left hn]
    have := Nat.mul_div_le u.length n
    omega) (by omega)
  have e2 := lrt2 (g := g) _ _ _ (u.length : Int) (n : Int) _ _ dv (sl_ints u n) m1 (eq_ints u (rep (u.length / n) (u.take n)))
  have e3 := lrt3 (g := g) (.lst (u.map D.int)) (u.length : Int) (n : Int) _ dv
  by_cases c : n ∣ u.length
  · have m0 : u.length % n = 0 := dd.mpr c
    rw [m0] at md
    have e1 := lrt1 (g := g) (.lst (u.map D.int)) (u.length : Int) (n : Int) md
    by_cases p : u = rep (u.length / n) (u.take n)
    · rw [if_pos ⟨c, p⟩]
      rw [decide_eq_true p] at e2
      show sIf (tAndM _ _) _ _ _ _ = _
      rw [s_If, e_AndM, e1, bind_ok, if_pos rfl, e2, bindS_ok, if_pos rfl, e3]
    · rw [if_neg fun z => p z.2]
      rw [decide_eq_false p] at e2
      show sIf (tAndM _ _) _ _ _ _ = _
      rw [s_If, e_AndM, e1, bind_ok, if_pos rfl, e2]
      rfl
  · have m0 : ¬ u.length % n = 0 := fun z => c (dd.mp z)
    rw [if_neg fun z => c z.1]
    generalize u.length % n = X at *
    simp [md, m0]
theorem told_all (u : List Int) (h : 0 < u.length) : told u u.length := ⟨Nat.dvd_refl _, by rw [Nat.div_self h, rep_one, List.take_of_length_le (Nat.le_refl _)]⟩
theorem lr_loop (u : List Int) (h : u.length ≤ 60) (hu : 0 < u.length) : ∀ (m i : Nat), 0 < i → i + m = u.length + 1 → 1 ≤ m →
    ∃ n, i ≤ n ∧ n < i + m ∧ told u n ∧ (∀ n', i ≤ n' → n' < n → ¬ told u n') ∧ loopF (bOne (bName 2)) [2] lrB (rgD (i : Int) 1 m) [.im (.lst (u.map D.int)), .im (.int u.length), .no] g = .ok (.rt (.tup [.int n, .int (u.length / n : Nat)])) g
  | 0, i, _, _, hm => absurd hm (by decide)
  | m + 1, i, h0, h1, _ => by
    have t := lr_1 (g := g) u i h h0 (by omega)
    have st : loopF (bOne (bName 2)) [2] lrB (rgD (i : Int) 1 (m + 1)) [.im (.lst (u.map D.int)), .im (.int u.length), .no] g = (lrB [.im (.lst (u.map D.int)), .im (.int u.length), .im (.int i)] g).turn [2] fun ρ g => loopF (bOne (bName 2)) [2] lrB (rgD ((i : Int) + 1) 1 m) ρ g := by
      rw [show rgD (i : Int) 1 (m + 1) = .one (.int (i : Int)) :: rgD ((i : Int) + 1) 1 m from rfl, loop_step (ρ1 := [.im (.lst (u.map D.int)), .im (.int u.length), .im (.int i)]) rfl]
    rw [st, t]
    by_cases c : told u i
    · rw [if_pos c]
      exact ⟨i, Nat.le_refl _, by omega, c, fun n' a b => by omega, rfl⟩
    · rw [if_neg c, turn_nx]
      have m0 : 1 ≤ m := by
        by_cases z : m = 0
        · subst z
          have : i = u.length := by omega
          subst this
          exact absurd (told_all u hu) c
        · omega
      obtain ⟨n, a1, a2, a3, a4, a5⟩ := lr_loop u h hu m (i + 1) (by omega) (by omega) m0
      rw [show ((i + 1 : Nat) : Int) = (i : Int) + 1 by omega] at a5
      refine ⟨n, by omega, by omega, a3, fun n' b1 b2 => ?_, a5⟩
      by_cases e : n' = i
      · rw [e]; exact c
      · exact a4 n' (by omega) b2
theorem told_per {u : List Int} {n : Nat} (h : told u n) (hn : n ≤ u.length) : okN u n := by
  refine ⟨h.1, ?_⟩
  have e := rep_per (u.length / n) (u.take n)
  rw [← h.2, List.length_take, Nat.min_eq_left hn] at e
  exact e
theorem per_told {u : List Int} {n : Nat} (hn : 0 < n) (h : okN u n) : told u n := by
  refine ⟨h.1, ?_⟩
  exact per_rep _ _ _ (Nat.div_mul_cancel h.1).symm h.2
theorem told_prim {u : List Int} {n : Nat} (hu : 0 < u.length) (hn : 0 < n) (h : told u n) (least : ∀ n', 0 < n' → n' < n → ¬ told u n') : Prim (u.take n) ∧ (u.take n).length = n ∧ u = rep (u.length / n) (u.take n) := by
  have nl := Nat.le_of_dvd hu h.1
  have ln : (u.take n).length = n := by rw [List.length_take]; omega
  refine ⟨⟨by omega, fun d d0 dd dp => ?_⟩, ln, h.2⟩
  rw [ln] at dd ⊢
  by_cases c : d < n
  · exfalso
    refine least d d0 c ⟨Nat.dvd_trans dd h.1, ?_⟩
    obtain ⟨q, hq⟩ := dd
    have e := per_rep q (u.take n) d (by rw [ln, hq, Nat.mul_comm]) dp
    rw [List.take_take, Nat.min_eq_left (by omega)] at e
    conv => lhs; rw [h.2, e, rep_mul]
    congr 1
    obtain ⟨w, hw⟩ := h.1
    rw [hw, Nat.mul_div_cancel_left w hn, hq, Nat.mul_assoc, Nat.mul_div_cancel_left _ d0, Nat.mul_comm]
  · have := Nat.le_of_dvd hn dd
    omega
/-! ### the greatest common length -/
abbrev cmB : Ms := (sSeq (sIf (asB (eOp eqF (eVar 1) (eC (.int 0)))) sBrk sNil) (sPar 0 1 (zIm (eVar 1) (zIm (eOp (arI modI) (eArgs intF (aCons (eVar 0) aNil)) (eVar 1)) zNil))))
theorem cm_1 (a b : Nat) (s2 : Sl) (hb : 0 < b) : cmB [.im (.int a), .im (.int b), s2] g = .ok (.nx [.im (.int b), .im (.int (a % b : Nat)), s2]) g := by
  have md : modI (a : Int) (b : Int) = some ((a % b : Nat) : Int) := modI_nat hb
  have c : ¬ b = 0 := by omega
  generalize a % b = X at *
  simp [md, c]
theorem cm_0 (a : Nat) (s2 : Sl) : cmB [.im (.int a), .im (.int 0), s2] g = .ok (.bk [.im (.int a), .im (.int 0), s2]) g := by
  simp
theorem cm_loop : ∀ (k m : Nat) (lo : Int) (a b : Nat), b < 2 ^ k → 2 * k + 1 ≤ m → ∃ c : Sl, loopF (bOne (bName 2)) [2] cmB (rgD lo 1 m) [.im (.int a), .im (.int b), .no] g = .ok (.nx [.im (.int (Nat.gcd a b : Nat)), c, .no]) g
  | 0, m, lo, a, b, hb, hm => by
    obtain ⟨m, rfl⟩ : ∃ n, m = n + 1 := ⟨m - 1, by omega⟩
    have : b = 0 := by
      rw [Nat.pow_zero] at hb
      omega
    subst this
    refine ⟨.im (.int 0), ?_⟩
    rw [show rgD lo 1 (m + 1) = .one (.int lo) :: rgD (lo + 1) 1 m from rfl, loop_step (ρ1 := [.im (.int a), .im (.int (0 : Nat)), .im (.int lo)]) rfl]
    show (cmB [.im (.int a), .im (.int 0), .im (.int lo)] g).turn [2] _ = _
    rw [cm_0, Nat.gcd_zero_right]
    rfl
  | k + 1, m, lo, a, b, hb, hm => by
    obtain ⟨m, rfl⟩ : ∃ n, m = n + 1 := ⟨m - 1, by omega⟩
    by_cases c : b = 0
    · subst c
      refine ⟨.im (.int 0), ?_⟩
      rw [show rgD lo 1 (m + 1) = .one (.int lo) :: rgD (lo + 1) 1 m from rfl, loop_step (ρ1 := [.im (.int a), .im (.int (0 : Nat)), .im (.int lo)]) rfl]
      show (cmB [.im (.int a), .im (.int 0), .im (.int lo)] g).turn [2] _ = _
      rw [cm_0, Nat.gcd_zero_right]
      rfl
    · obtain ⟨m, rfl⟩ : ∃ n, m = n + 1 := ⟨m - 1, by omega⟩
      have e1 := cm_1 (g := g) a b (.im (.int lo)) (by omega)
      have r1 := Nat.mod_lt a (show 0 < b by omega)
      have g1 : Nat.gcd a b = Nat.gcd b (a % b) := by
        rw [Nat.gcd_comm a b, Nat.gcd_rec b a, Nat.gcd_comm]
      obtain ⟨x, hx⟩ : ∃ x, a % b = x := ⟨_, rfl⟩
      rw [hx] at e1 r1 g1
      rw [g1, show rgD lo 1 (m + 1 + 1) = .one (.int lo) :: rgD (lo + 1) 1 (m + 1) from rfl, loop_step (ρ1 := [.im (.int a), .im (.int b), .im (.int lo)]) rfl, e1, turn_nx, show kill [2] [.im (.int (b : Int)), .im (.int (x : Int)), .im (.int lo)] = [.im (.int (b : Int)), .im (.int (x : Int)), .no] from rfl]
      by_cases c2 : x = 0
      · subst c2
        refine ⟨.im (.int 0), ?_⟩
        rw [show rgD (lo + 1) 1 (m + 1) = .one (.int (lo + 1)) :: rgD (lo + 1 + 1) 1 m from rfl, loop_step (ρ1 := [.im (.int b), .im (.int (0 : Nat)), .im (.int (lo + 1))]) rfl]
        show (cmB [.im (.int b), .im (.int 0), .im (.int (lo + 1))] g).turn [2] _ = _
        rw [cm_0, Nat.gcd_zero_right]
        rfl
      · have e2 := cm_1 (g := g) b x (.im (.int (lo + 1))) (by omega)
        have r2 := Nat.mod_lt b (show 0 < x by omega)
        have r3 := Nat.div_add_mod b x
        have r4 : 1 ≤ b / x := Nat.div_pos (by omega) (by omega)
        have r5 : x ≤ x * (b / x) := Nat.le_mul_of_pos_right x r4
        have r6 : b % x < 2 ^ k := by
          rw [Nat.pow_succ] at hb
          omega
        obtain ⟨s, ih⟩ := cm_loop k m (lo + 1 + 1) x (b % x) r6 (by omega)
        have g2 : Nat.gcd b x = Nat.gcd x (b % x) := by
          rw [Nat.gcd_comm b x, Nat.gcd_rec x b, Nat.gcd_comm]
        refine ⟨s, ?_⟩
        rw [g2, ← ih, show rgD (lo + 1) 1 (m + 1) = .one (.int (lo + 1)) :: rgD (lo + 1 + 1) 1 m from rfl, loop_step (ρ1 := [.im (.int b), .im (.int x), .im (.int (lo + 1))]) rfl, e2]
        rfl
end Wk
set_option linter.all false
set_option maxRecDepth 100000
set_option maxHeartbeats 4000000
namespace Wk
open PySem L2 Dl Rw
variable {g : G}
/-! ### lists of marks -/
theorem iadd (a b : List Int) (h : a.length + b.length ≤ 100000) : addD (intsD a) (intsD b) g = .ok (intsD (a ++ b)) g := by
  unfold intsD
  rw [add_lst, List.length_map, List.length_map, if_pos (by show a.length + b.length ≤ 1000000; omega), List.map_append]
theorem imul (l : List Int) (k : Nat) (h : l.length * k ≤ 1000) (hk : k ≤ 1000) : mulD (intsD l) (.int (k : Int)) g = .ok (intsD (rep k l)) g := mul_ints l k h hk
theorem ieq (a b : List Int) : eqF (intsD a) (intsD b) g = .ok (.bl (decide (a = b))) g := eq_ints a b
theorem ilen (l : List Int) : lenF [intsD l] g = .ok (.int l.length) g := by
  unfold intsD
  rw [len_lst, List.length_map]
theorem itup (l : List Int) : tupF [intsD l] g = .ok (marksD l) g := rfl
theorem isl (l : List Int) (s : Nat) : slF (intsD l) none (some (s : Int)) g = .ok (intsD (l.take s)) g := sl_ints l s
theorem isl60 (w : List Int) (i : Nat) : slF (intsD w) (some ((60 * i : Nat) : Int)) (some (((60 * i : Nat) : Int) + 60)) g = .ok (intsD (plB w i).1) g := by
  rw [show ((60 * i : Nat) : Int) + 60 = ((60 * i + 60 : Nat) : Int) by omega]
  show Re.ok (D.lst (cutA (w.map D.int) _ _)) g = _
  rw [cutA_map, cutA_nat]
  rfl
/-! ### a row told several times -/
def rmul (k : Nat) (r : Row) : Row := (List.replicate k r).flatten
theorem rmul_wd (k : Nat) (r : Row) : wd (rmul k r) = rep k (wd r) := by
  induction k with
  | zero => rfl
  | succ k ih =>
    unfold rmul at *
    rw [List.replicate_succ, List.flatten_cons, wd_append, ih, rep_succ]
theorem rmul_len (k : Nat) (r : Row) : (rmul k r).length = k * r.length := by
  induction k with
  | zero => rw [Nat.zero_mul]; rfl
  | succ k ih =>
    unfold rmul at *
    rw [List.replicate_succ, List.flatten_cons, List.length_append, ih, Nat.succ_mul]
    omega
theorem rmul_bk (k : Nat) (r : Row) (h : Bks r) : Bks (rmul k r) := fun x hx => by
  unfold rmul at hx
  rw [List.mem_flatten] at hx
  obtain ⟨y, hy, h2⟩ := hx
  rw [List.mem_replicate] at hy
  rw [hy.2] at h2
  exact h x h2
theorem mul_row (r : Row) (k : Nat) (h1 : 1 ≤ r.length) (h2 : r.length ≤ 100) (hk : k ≤ 1000) : mulD (rowD r) (.int (k : Int)) g = .ok (rowD (rmul k r)) g := by
  have ne : r.map blkD ≠ [] := fun z => by
    have := congrArg List.length z
    rw [List.length_map, List.length_nil] at this
    omega
  have key : ∀ k : Nat, (List.replicate k (r.map blkD)).flatten = (rmul k r).map blkD := fun k => by
    induction k with
    | zero => rfl
    | succ k ih =>
      unfold rmul at *
      rw [List.replicate_succ, List.flatten_cons, ih, List.replicate_succ, List.flatten_cons, List.map_append]
  show (if r.map blkD ≠ [] ∧ (2 : Int) ≤ (k : Int) ∧ (k : Int) ≤ 1000 ∧ (r.map blkD).length ≤ 1000 then Re.ok (D.tup (List.replicate (k : Int).toNat (r.map blkD)).flatten) g else if (k : Int) = 1 then .ok (.tup (r.map blkD)) g else if (k : Int) = 0 ∧ r.map blkD ≠ [] then .ok (.tup []) g else .bad) = _
  by_cases c : 2 ≤ k
  · rw [if_pos ⟨ne, by omega, by omega, by rw [List.length_map]; omega⟩, Int.toNat_natCast, key]
    rfl
  · rw [if_neg fun z => by have := z.2.1; omega]
    by_cases c1 : k = 1
    · subst c1
      rw [if_pos (show ((1 : Nat) : Int) = 1 from rfl)]
      have e : rmul 1 r = r := by
        unfold rmul
        simp
      rw [e]
      rfl
    · have c0 : k = 0 := by omega
      subst c0
      rw [if_neg (by decide), if_pos ⟨rfl, ne⟩]
      rfl
/-! ### a row cut at a place -/
theorem ite_len (c : Prop) [Decidable c] (x : List Int × Int) : (if c then [x] else []).length ≤ 1 := by split <;> simp
theorem pob_left (l : List Int) (e : Nat) : (pob l 0 e).length ≤ 2 := by
  unfold pob pobG
  rw [Nat.zero_div, Nat.zero_mod]
  split
  · simp
  · simp only [List.length_append]
    have h2 := fullB_len l (e / l.length) (0 + if 0 < 0 then 1 else 0)
    have h3 := ite_len (0 < e % l.length) (l.take (e % l.length), 1)
    rw [if_neg (by decide)] at h2 ⊢
    simp only [List.length_nil, Nat.zero_add, if_neg (Nat.lt_irrefl 0)] at *
    omega
theorem pob_right (l : List Int) (b t : Nat) : (pob l b (t * l.length)).length ≤ 2 := by
  unfold pob pobG
  rw [Nat.mul_mod_left]
  split
  · simp
  · simp only [List.length_append]
    have h1 := ite_len (0 < b % l.length) (l.drop (b % l.length), 1)
    have h2 := fullB_len l (t * l.length / l.length) (b / l.length + if 0 < b % l.length then 1 else 0)
    simp only [if_neg (Nat.lt_irrefl 0), List.length_nil]
    omega
theorem pob_full (l : List Int) (t : Nat) : (pob l 0 (t * l.length)).length ≤ 1 := by
  unfold pob pobG
  rw [Nat.zero_div, Nat.zero_mod, Nat.mul_mod_left]
  split
  · simp
  · simp only [List.length_append]
    have h2 := fullB_len l (t * l.length / l.length) (0 + if 0 < 0 then 1 else 0)
    simp only [if_neg (Nat.lt_irrefl 0), List.length_nil] at *
    omega
theorem split_len (p e : Nat) : ∀ (r : Row) (A : Nat), A + (wd r).length ≤ e → (pof 0 p r A).length + (pof p e r A).length ≤ r.length + (if p ≤ A then 0 else 3)
  | [], _, _ => by unfold pof; simp
  | x :: r, A, h => by
    rw [wd_cons, List.length_append, bw_len] at h
    have ih := split_len p e r (A + bsz x) (by omega)
    unfold pof
    rw [List.length_append, List.length_append, List.length_cons]
    have bz : bsz x = x.2.toNat * x.1.length := rfl
    have me : min (e - A) (bsz x) = bsz x := by omega
    rw [me]
    by_cases c1 : p ≤ A
    · rw [if_pos c1]
      rw [if_pos (by omega)] at ih
      have f := pob_full x.1 x.2.toNat
      rw [← bz] at f
      have z1 : p - A = 0 := by omega
      have z2 : ¬ 0 - A < min (p - A) (bsz x) := by omega
      rw [if_neg z2, z1]
      split
      · simp only [List.length_nil]; omega
      · simp only [List.length_nil]; omega
    · rw [if_neg c1]
      by_cases c2 : A + bsz x ≤ p
      · have f := pob_full x.1 x.2.toNat
        rw [← bz] at f
        have z1 : min (p - A) (bsz x) = bsz x := by omega
        have z2 : ¬ p - A < bsz x := by omega
        have z3 : 0 - A = 0 := by omega
        rw [if_neg z2, z1, z3]
        have : (if p ≤ A + bsz x then 0 else 3) ≤ 3 := by split <;> omega
        split
        · simp only [List.length_nil]; omega
        · simp only [List.length_nil]; omega
      · rw [if_pos (by omega)] at ih
        have f1 := pob_left x.1 (min (p - A) (bsz x))
        have f2 := pob_right x.1 (p - A) x.2.toNat
        rw [← bz] at f2
        have z3 : 0 - A = 0 := by omega
        rw [z3]
        split <;> split <;> (try simp only [List.length_nil]) <;> omega
theorem put_row (r : Row) (h : Rk r) (p q : Nat) (m : Int) (m0 : 0 ≤ m) (m3 : m ≤ 3) (few : (pof 0 p r 0).length + 1 + (pof q (wd r).length r 0).length ≤ 60) :
    Rk (pof 0 p r 0 ++ ([([m], 1)] ++ pof q (wd r).length r 0)) ∧ wd (pof 0 p r 0 ++ ([([m], 1)] ++ pof q (wd r).length r 0)) = (wd r).take p ++ ([m] ++ (wd r).drop q) := by
  refine ⟨⟨by rw [List.length_append, List.length_append, List.length_singleton]; omega, bks_app (pof_bk _ _ r 0 h.bk) (bks_app (bks_one ⟨by simp, by simp, fun x hx => by
    have : x = m := by simpa using hx
    omega, (by decide : (1 : Int) ≤ 1), (by decide : (1 : Int) ≤ 10 ^ 30)⟩) (pof_bk _ _ r 0 h.bk))⟩, ?_⟩
  rw [wd_append, wd_append, pof_word _ _ r h, pof_word _ _ r h, wd_one]
  unfold cut
  rw [List.drop_zero, List.take_length]
  rfl
end Wk
set_option linter.all false
set_option maxRecDepth 100000
set_option maxHeartbeats 8000000
namespace Wk
open PySem L2 Dl Rw
variable {g : G}
theorem pair_cb (n : Nat) (a b : Int) (a0 : 0 ≤ a) (a1 : a < 10 ^ 60) (b0 : 0 ≤ b) (b1 : b < 10 ^ 60) : CB (n + 1) (.tup [.int a, .int b]) 1000 := by
  refine CB.mono (cst_tup_bd (n := n) (B := 64) fun x hx => ?_) (by simp only [List.length_cons, List.length_nil]; omega)
  simp only [List.mem_cons, List.not_mem_nil, or_false] at hx
  rcases hx with rfl | rfl
  · exact int_cb n a a0 a1
  · exact int_cb n b b0 b1
theorem bl_cb (n : Nat) (b : Bool) : CB n (.bl b) 1000 := by
  cases n <;> cases b <;> exact ⟨_, rfl, by decide⟩
theorem non_cb (n : Nat) : CB n .non 1000 := by
  cases n <;> exact ⟨_, rfl, by decide⟩
theorem like_lst (l : List D) (h : ∀ x ∈ l, CB 39 x 4000) (hl : l.length ≤ 10) : F__law_like [.lst l, .lst l] g = .ok (.bl true) g := like_bd _ (by
  refine CB.mono (cst_lst_bd (n := 39) (B := 4000) h) ?_
  have : l.length * 4000 ≤ 10 * 4000 := Nat.mul_le_mul_right _ hl
  omega)
/-! ### short rows -/
theorem short_st {L0 L0n L1 U V : D} {n1 n2 : Int} {g1 g2 g3 g4 : G} (e2 : F__law_draw [.hdl, .int 5] g1 = .ok (.int n1) g2) (m1 : mulD L0 (.int n1) g2 = .ok L0n g2) (e3 : F__law_marks [.hdl, .int 2, .int 1] g2 = .ok L1 g3) (a1 : addD L0n L1 g3 = .ok U g3) (e4 : F__law_draw [.hdl, .int 5] g3 = .ok (.int n2) g4) (m2 : mulD L0 (.int n2) g4 = .ok V g4) :
    (sPar 2 3 (zIm (eOp addD (eOp mulD (eVar 1) (eCall 2 F__law_draw (aCons (eVar 0) (aCons (eC (.int 5)) aNil)))) (eCall 3 F__law_marks (aCons (eVar 0) (aCons (eC (.int 2)) (aCons (eC (.int 1)) aNil))))) (zIm (eOp mulD (eVar 1) (eCall 2 F__law_draw (aCons (eVar 0) (aCons (eC (.int 5)) aNil)))) zNil))) [.im .hdl, .im L0, .no, .no, .no, .no, .no, .no] g1 = .ok (.nx [.im .hdl, .im L0, .im U, .im V, .no, .no, .no, .no]) g4 := by
  simp [e2, m1, e3, a1, e4, m2]
end Wk
set_option Elab.async false
set_option linter.all false
set_option maxRecDepth 100000
set_option maxHeartbeats 1000000
namespace Wk
open PySem L2 Dl Rw
variable {g : G}
/-! ### what the program tells of two rows -/
theorem first_unlike_ok (p r : Row) (hp : Rk p) (hr : Rk r) {o : Option Nat} (h : Ul (wd p) (wd r) o) : F_first_unlike [rowD p, rowD r] g = .ok (ulD o) g := by
  have e := unlike_is (g := g) p r hp.bk hr.bk (by have := hp.few; omega) (by have := hr.few; omega) h
  simp [F_first_unlike, bodyF, entry, m_first_unlike, F_need_row_row p hp, F_need_row_row r hr, e]
theorem read_alike_ok (p r : Row) (hp : Rk p) (hr : Rk r) {o : Option Nat} (h : Ul (wd p) (wd r) o) : F_read_alike [rowD p, rowD r] g = .ok (.bl (ulD o).isNon) g := by
  simp [F_read_alike, bodyF, entry, m_read_alike, first_unlike_ok p r hp hr h]
/-- whether X is ahead of Y, parted at o -/
def ahd (X Y : List Int) : Option Nat → Bool
  | none => decide (X.length < Y.length)
  | some k => if X.length = Y.length then decide (X.getD k 0 < Y.getD k 0) else decide (X.length < Y.length)
theorem is_ahead_ok (p r : Row) (hp : Rk p) (hr : Rk r) {o : Option Nat} (h : Ul (wd p) (wd r) o) : F_is_ahead [rowD p, rowD r] g = .ok (.bl (ahd (wd p) (wd r) o)) g := by
  have e1 := first_unlike_ok (g := g) p r hp hr h
  have e2 := F_entries_of_row (g := g) p hp.sm (by have := hp.few; omega)
  have e3 := F_entries_of_row (g := g) r hr.sm (by have := hr.few; omega)
  cases o with
  | none => simp [F_is_ahead, bodyF, entry, m_is_ahead, e1, e2, e3, ulD, ahd]
  | some k =>
    by_cases c : (wd p).length = (wd r).length
    · have hk : k < (wd p).length := by
        rcases Nat.lt_or_ge k (wd p).length with z | z
        · exact z
        · exact absurd (by rw [List.getElem?_eq_none z, List.getElem?_eq_none (by omega)]) h.2
      have m1 : (wd p)[k]? = some ((wd p).getD k 0) := by rw [List.getD_eq_getElem?_getD, List.getElem?_eq_getElem hk]; rfl
      have m2 : (wd r)[k]? = some ((wd r).getD k 0) := by rw [List.getD_eq_getElem?_getD, List.getElem?_eq_getElem (by omega)]; rfl
      have e4 := F_mark_there_row (g := g) p k _ hp.bk m1
      have e5 := F_mark_there_row (g := g) r k _ hr.bk m2
      rw [show ahd (wd p) (wd r) (some k) = decide ((wd p).getD k 0 < (wd r).getD k 0) from if_pos c]
      simp only [ulD] at e1
      rw [← c] at e3
      simp [F_is_ahead, bodyF, entry, m_is_ahead, e1, e2, e3, e4, e5]
    · rw [show ahd (wd p) (wd r) (some k) = decide ((wd p).length < (wd r).length) from if_neg c]
      simp only [ulD] at e1
      have c2 : ¬ ((wd p).length : Int) = (wd r).length := by omega
      simp [F_is_ahead, bodyF, entry, m_is_ahead, e1, e2, e3, c2]
theorem turned_wd : ∀ r : Row, wd (turned r) = (wd r).reverse
  | [] => rfl
  | x :: r => by
    have ih := turned_wd r
    unfold turned at ih ⊢
    rw [List.reverse_cons, List.map_append, wd_append, ih, wd_cons, List.reverse_append]
    congr 1
    show bw (x.1.reverse, x.2) ++ [] = _
    rw [List.append_nil]
    show rep _ _ = (rep _ _).reverse
    rw [rep_reverse]
theorem turned_len (r : Row) : (turned r).length = r.length := by unfold turned; simp
def cend (X : List Int) : Option Nat → Nat
  | none => X.length
  | some k => k
theorem common_end_ok (p r : Row) (hp : Rk p) (hr : Rk r) {o : Option Nat} (h : Ul (wd p).reverse (wd r).reverse o) : F_common_end [rowD p, rowD r] g = .ok (.int (cend (wd p) o : Nat)) g := by
  have f1 := hp.few
  have f2 := hr.few
  rw [← turned_wd, ← turned_wd] at h
  have e0 := unlike_is (g := g) (turned p) (turned r) (turned_bks hp.bk) (turned_bks hr.bk) (by rw [turned_len]; omega) (by rw [turned_len]; omega) h
  have e1 := F_blocks_turned_row (g := g) p (by omega)
  have e2 := F_blocks_turned_row (g := g) r (by omega)
  have e3 := F_entries_of_row (g := g) p hp.sm (by omega)
  cases o <;> simp [F_common_end, bodyF, entry, m_common_end, F_need_row_row p hp, F_need_row_row r hr, e1, e2, e0, e3, ulD, cend]
/-- all answers -/
def ask6 (X Y : List Int) (o : Option Nat) : List D := [ulD o, ulD o, .bl (ulD o).isNon, .bl (ulD o).isNon, .bl (ahd X Y o), .bl (ahd Y X o)]
def ask8 (X Y : List Int) (o o' : Option Nat) : List D := ask6 X Y o ++ [.int (cend X o' : Nat), .int (cend Y o' : Nat)]
theorem ulx (X Y : List Int) : ∃ o, Ul X Y o := by
  by_cases h : X = Y
  · exact ⟨none, h⟩
  · rcases first_of (fun k => X[k]? = Y[k]?) (max X.length Y.length) with q | ⟨s, _, q1, q2⟩
    · refine absurd (List.ext_getElem? fun i => ?_) h
      rcases Nat.lt_or_ge i (max X.length Y.length) with z | z
      · exact q i z
      · rw [List.getElem?_eq_none (by omega), List.getElem?_eq_none (by omega)]
    · exact ⟨some s, q1, q2⟩
theorem asked_ok (p r : Row) (hp : Rk p) (hr : Rk r) {o o' : Option Nat} (h : Ul (wd p) (wd r) o) (h' : Ul (wd p).reverse (wd r).reverse o') : F__law_asked [rowD p, rowD r] g = .ok (.lst (ask8 (wd p) (wd r) o o')) g := by
  have a1 := first_unlike_ok (g := g) p r hp hr h
  have a2 := first_unlike_ok (g := g) r p hr hp h.symm
  have a3 := read_alike_ok (g := g) p r hp hr h
  have a4 := read_alike_ok (g := g) r p hr hp h.symm
  have a5 := is_ahead_ok (g := g) p r hp hr h
  have a6 := is_ahead_ok (g := g) r p hr hp h.symm
  have a7 := common_end_ok (g := g) p r hp hr h'
  have a8 := common_end_ok (g := g) r p hr hp h'.symm
  simp [F__law_asked, bodyF, entry, m__law_asked, a1, a2, a3, a4, a5, a6, a7, a8, ask8, ask6]
theorem asked6_ok (p r : Row) (hp : Rk p) (hr : Rk r) {o : Option Nat} (h : Ul (wd p) (wd r) o) : ∃ L, F__law_asked [rowD p, rowD r] g = .ok (.lst L) g ∧ slF (.lst L) none (some 6) g = .ok (.lst (ask6 (wd p) (wd r) o)) g := by
  obtain ⟨o', h'⟩ := ulx (wd p).reverse (wd r).reverse
  exact ⟨_, asked_ok p r hp hr h h', rfl⟩
end Wk
set_option Elab.async false
set_option linter.all false
set_option maxRecDepth 100000
set_option maxHeartbeats 1000000
namespace Wk
open PySem L2 Dl Rw
variable {g : G}
/-! ### short rows: the law's own answers -/
theorem int_ix (l : List Int) (k : Nat) (v : Int) (h : l[k]? = some v) : ixF (intsD l) (.int (k : Int)) g = .ok (.int v) g := ixF_ints h
abbrev ppB : Ms := (sIf (tOrM (asB (eOp geF (eVar 2) (eArgs lenF (aCons (eVar 0) aNil)))) (tOrM (asB (eOp geF (eVar 2) (eArgs lenF (aCons (eVar 1) aNil)))) (asB (eOp neF (eOp ixF (eVar 0) (eVar 2)) (eOp ixF (eVar 1) (eVar 2)))))) (sRet (eVar 2)) sNil)
theorem pp_turn (X Y : List Int) (k : Nat) : ppB [.im (intsD X), .im (intsD Y), .im (.int k)] g = if X[k]? = Y[k]? ∧ k < X.length then .ok (.nx [.im (intsD X), .im (intsD Y), .im (.int k)]) g else .ok (.rt (.int k)) g := by
  have e1 := ilen (g := g) X
  have e2 := ilen (g := g) Y
  by_cases c1 : k < X.length
  · have d1 : ¬ X.length ≤ k := by omega
    by_cases c2 : k < Y.length
    · have d2 : ¬ Y.length ≤ k := by omega
      have i1 := int_ix (g := g) X k X[k] (List.getElem?_eq_getElem c1)
      have i2 := int_ix (g := g) Y k Y[k] (List.getElem?_eq_getElem c2)
      rw [List.getElem?_eq_getElem c1, List.getElem?_eq_getElem c2]
      by_cases q : X[k] = Y[k]
      · simp [e1, e2, i1, i2, d1, d2, q, c1]
      · simp [e1, e2, i1, i2, d1, d2, q, c1]
    · have d2 : Y.length ≤ k := by omega
      rw [List.getElem?_eq_getElem c1, List.getElem?_eq_none (by omega)]
      simp [e1, e2, d1, d2]
  · have d1 : X.length ≤ k := by omega
    simp [e1, e2, d1, c1]
theorem pp_loop (X Y : List Int) {o : Option Nat} (h : Ul X Y o) : ∀ (m i : Nat), i + m = max X.length Y.length → (∀ k, k < i → X[k]? = Y[k]?) → fin ((loopF (bOne (bName 2)) [2] ppB (rgD i 1 m) [.im (intsD X), .im (intsD Y), .no] g).thn (sRet (eC .non))) = .ok (ulD o) g
  | 0, i, hi, hk => by
    have e : X = Y := List.ext_getElem? fun k => by
      rcases Nat.lt_or_ge k i with z | z
      · exact hk k z
      · rw [List.getElem?_eq_none (by omega), List.getElem?_eq_none (by omega)]
    have : o = none := h.uniq e
    subst this
    rfl
  | m + 1, i, hi, hk => by
    have t := pp_turn (g := g) X Y i
    rw [show rgD (i : Int) 1 (m + 1) = .one (.int i) :: rgD ((i : Int) + 1) 1 m from rfl, loop_step (ρ1 := [.im (intsD X), .im (intsD Y), .im (.int i)]) rfl, t]
    by_cases c : X[i]? = Y[i]? ∧ i < X.length
    · rw [if_pos c]
      have ih := pp_loop X Y h m (i + 1) (by omega) fun k hk2 => by
        rcases Nat.lt_or_ge k i with z | z
        · exact hk k z
        · have : k = i := by omega
          subst this; exact c.1
      simpa using ih
    · rw [if_neg c]
      have ne : X[i]? ≠ Y[i]? := fun q => c ⟨q, by
        rcases Nat.lt_or_ge i X.length with z | z
        · exact z
        · rw [List.getElem?_eq_none z] at q
          have := List.getElem?_eq_none_iff.mp q.symm
          omega⟩
      have : o = some i := h.uniq ⟨hk, ne⟩
      subst this
      rfl
theorem part_place_ok (X Y : List Int) (hx : X.length ≤ 1000) (hy : Y.length ≤ 1000) {o : Option Nat} (h : Ul X Y o) : F__law_part_place [intsD X, intsD Y] g = .ok (ulD o) g := by
  have e1 := ilen (g := g) X
  have e2 := ilen (g := g) Y
  have l := pp_loop (g := g) X Y h (max X.length Y.length) 0 (by omega) (fun k hk => absurd hk (Nat.not_lt_zero k))
  have em : (max (X.length : Int) (Y.length : Int)) = ((max X.length Y.length : Nat) : Int) := by omega
  have sm : smallI ((max X.length Y.length : Nat) : Int) = true := small_lit _ (by omega)
  have r : m__law_part_place = sSeq (sFor (yR1 (aCons (eArgs max2F (aCons (eArgs lenF (aCons (eVar 0) aNil)) (aCons (eArgs lenF (aCons (eVar 1) aNil)) aNil))) aNil)) (bOne (bName 2)) [2] ppB) (sRet (eC .non)) := rfl
  have b : bodyF 3 m__law_part_place [intsD X, intsD Y] g = fin (m__law_part_place [.im (intsD X), .im (intsD Y), .no] g) := rfl
  unfold F__law_part_place
  rw [b, r]
  have f : (sFor (yR1 (aCons (eArgs max2F (aCons (eArgs lenF (aCons (eVar 0) aNil)) (aCons (eArgs lenF (aCons (eVar 1) aNil)) aNil))) aNil)) (bOne (bName 2)) [2] ppB) [.im (intsD X), .im (intsD Y), .no] g = loopF (bOne (bName 2)) [2] ppB (rgD (0 : Nat) 1 (max X.length Y.length)) [.im (intsD X), .im (intsD Y), .no] g := by
    simp only [s_For, y_R1, a_Cons, a_Nil, e_Args, v_0, v_s, bind_ok, e1, e2, max_int, em, sm, bindS_ok, if_pos, kill_cons, kill_nil]
    rfl
  rw [s_Seq, f]
  exact l
theorem ahd_eq {X Y : List Int} {k : Nat} (h : X.length = Y.length) : ahd X Y (some k) = decide (X.getD k 0 < Y.getD k 0) := if_pos h
theorem lt_nn : PySem.W.dataLt (.tuple []) (.tuple []) = false := by decide +kernel
theorem lex_ahd (X Y : List Int) {o : Option Nat} (h : Ul X Y o) (hl : X.length = Y.length) : lexI X Y = ahd X Y o := by
  induction X generalizing Y o with
  | nil =>
    cases Y with
    | nil =>
      have : o = none := h.uniq rfl
      subst this
      rfl
    | cons y ys => cases hl
  | cons x xs ih =>
    cases Y with
    | nil => cases hl
    | cons y ys =>
      have hl2 : xs.length = ys.length := by simpa using hl
      rw [lexI]
      by_cases q : x = y
      · subst q
        rw [if_pos rfl]
        obtain ⟨o2, h2⟩ := ulx xs ys
        have h3 : Ul (x :: xs) (x :: ys) (o2.map (1 + ·)) := Ul.more (n := 1) (fun i hi => (by
          have z : i = 0 := by omega
          subst z
          rfl)) h2
        have : o = o2.map (1 + ·) := h.uniq h3
        subst this
        rw [ih ys h2 hl2]
        cases o2 with
        | none => simp [ahd, hl2]
        | some k =>
          show ahd xs ys (some k) = ahd (x :: xs) (x :: ys) (some (1 + k))
          rw [ahd_eq hl2, ahd_eq hl, Nat.add_comm 1 k]
          simp
      · rw [if_neg q]
        have : o = some 0 := h.uniq (Ul.zero (by simpa using q))
        subst this
        rw [ahd_eq hl]
        simp
theorem rev_ints (l : List Int) : revF (intsD l) g = .ok (intsD l.reverse) g := by
  show Re.ok (D.lst (l.map D.int).reverse) g = _
  rw [← List.map_reverse]; rfl
theorem lt_pair (X Y : List Int) {o : Option Nat} (h : Ul X Y o) : ltT (.tup [.int X.length, intsD X]) (.tup [.int Y.length, intsD Y]) g = .ok (.bl (ahd X Y o)) g := by
  have p1 : (D.tup [.int X.length, intsD X]).py = .tuple [.int X.length, .list (X.map PyData.int)] := by
    show PyData.tuple [_, (D.lst (X.map D.int)).py] = _
    rw [py_ints]; rfl
  have p2 : (D.tup [.int Y.length, intsD Y]).py = .tuple [.int Y.length, .list (Y.map PyData.int)] := by
    show PyData.tuple [_, (D.lst (Y.map D.int)).py] = _
    rw [py_ints]; rfl
  have d : ∀ (n : Int) (Z : List Int), dn deep (.tup [.int n, intsD Z]) = true := fun n Z => by
    show (true && (((Z.map D.int).all (dn 38)) && true)) = true
    rw [dn_ints]; rfl
  have al : PySem.W.alike (.tuple [.int X.length, .list (X.map PyData.int)]) (.tuple [.int Y.length, .list (Y.map PyData.int)]) = true := by
    show (PySem.W.alike (.int X.length) (.int Y.length) && (PySem.W.alike (.list (X.map PyData.int)) (.list (Y.map PyData.int)) && PySem.W.alikeAll [] [])) = true
    show (true && (PySem.W.alikeAll (X.map PyData.int) (Y.map PyData.int) && PySem.W.alikeAll [] [])) = true
    rw [alike_ints, PySem.W.alikeAll]; rfl
  unfold ltT
  rw [p1, p2, d, d, al]
  show Re.ok (D.bl (PySem.W.dataLt (.tuple [.int X.length, .list (X.map PyData.int)]) (.tuple [.int Y.length, .list (Y.map PyData.int)]))) g = _
  congr 2
  rw [lt_tupCons rfl]
  have e : PyData.eqv (.int X.length) (.int Y.length) = decide ((X.length : Int) = Y.length) := by
    show (((X.length : Nat) : Int) == ((Y.length : Nat) : Int)) = _
    by_cases h : (X.length : Int) = Y.length
    · rw [decide_eq_true h]; exact beq_iff_eq.mpr h
    · rw [decide_eq_false h]; exact beq_eq_false_iff_ne.mpr h
  rw [e]
  by_cases c : X.length = Y.length
  · have c2 : (X.length : Int) = Y.length := by omega
    rw [if_pos (decide_eq_true c2)]
    rw [lt_tupCons (by show PySem.W.alikeAll _ _ = true; exact alike_ints X Y)]
    by_cases q : X = Y
    · subst q
      have : o = none := h.uniq rfl
      subst this
      have e2 : PyData.eqv (.list (X.map PyData.int)) (.list (X.map PyData.int)) = true := by
        have := eqD_ints X X
        unfold eqD at this
        rw [py_ints] at this
        rw [this]; simp
      rw [if_pos e2]
      show PySem.W.dataLt (.tuple []) (.tuple []) = decide (X.length < X.length)
      rw [lt_nn]; simp
    · have e2 : PyData.eqv (.list (X.map PyData.int)) (.list (Y.map PyData.int)) = false := by
        have := eqD_ints X Y
        unfold eqD at this
        rw [py_ints, py_ints] at this
        rw [this]; simp [q]
      rw [if_neg (by rw [e2]; exact Bool.false_ne_true), lt_ints, lex_ahd X Y h c]
  · have c2 : ¬ (X.length : Int) = Y.length := by omega
    rw [if_neg (by rw [decide_eq_false c2]; exact Bool.false_ne_true), PySem.W.dataLt_int]
    have : ahd X Y o = decide (X.length < Y.length) := by
      cases o with
      | none => rfl
      | some k => exact if_neg c
    rw [this]
    simp
theorem due_ok (X Y : List Int) (hx : X.length ≤ 1000) (hy : Y.length ≤ 1000) {o o' : Option Nat} (h : Ul X Y o) (h' : Ul X.reverse Y.reverse o') : F__law_due [intsD X, intsD Y] g = .ok (.lst (ask8 X Y o o')) g := by
  have e1 := part_place_ok (g := g) X Y hx hy h
  have e2 := part_place_ok (g := g) X.reverse Y.reverse (by simpa using hx) (by simpa using hy) h'
  have e3 := lt_pair (g := g) X Y h
  have e4 := lt_pair (g := g) Y X h.symm
  have r1 := rev_ints (g := g) X
  have r2 := rev_ints (g := g) Y
  have l1 := ilen (g := g) X
  have l2 := ilen (g := g) Y
  have ce : cend Y o' = cend X o' := by
    cases o' with
    | none =>
      have : X.reverse = Y.reverse := h'
      show Y.length = X.length
      have := congrArg List.length this
      simpa using this.symm
    | some k => rfl
  unfold ask8 ask6
  rw [ce]
  cases o' <;> simp [F__law_due, bodyF, entry, m__law_due, e1, e2, e3, e4, r1, r2, l1, l2, ulD, cend]
end Wk
set_option Elab.async false
set_option linter.all false
set_option maxRecDepth 100000
set_option maxHeartbeats 1000000
namespace Wk
open PySem L2 Dl Rw
def tpOk (a b : Nat) (W : List Int) : Bool := decide (W.length = a + b - 2) && W.all (fun m => decide (0 ≤ m ∧ m ≤ 3)) && (List.range (a + b - 2)).all (fun i => decide (W[i % a]? = W[i % b]?)) && !decide (W[(a + b - 2) % a]? = W[(a + b - 2) % b]?) && !decide (W[a - 1]? = W[b - 1]?)
def TP (a b : Nat) : Prop := ∃ W : List Int, tpOk a b W = true ∧ ∀ g : G, F__law_two_periods [.int a, .int b] g = .ok (marksD W) g
theorem tp_2_3 : TP 2 3 := ⟨[0, 1, 0], by decide +kernel, fun g => by kernel_rfl⟩
theorem tp_3_4 : TP 3 4 := ⟨[0, 0, 1, 0, 0], by decide +kernel, fun g => by kernel_rfl⟩
theorem tp_3_5 : TP 3 5 := ⟨[0, 1, 0, 0, 1, 0], by decide +kernel, fun g => by kernel_rfl⟩
theorem tp_4_5 : TP 4 5 := ⟨[0, 0, 0, 1, 0, 0, 0], by decide +kernel, fun g => by kernel_rfl⟩
theorem tp_4_7 : TP 4 7 := ⟨[0, 0, 1, 0, 0, 0, 1, 0, 0], by decide +kernel, fun g => by kernel_rfl⟩
theorem tp_5_6 : TP 5 6 := ⟨[0, 0, 0, 0, 1, 0, 0, 0, 0], by decide +kernel, fun g => by kernel_rfl⟩
theorem tp_5_9 : TP 5 9 := ⟨[0, 0, 0, 1, 0, 0, 0, 0, 1, 0, 0, 0], by decide +kernel, fun g => by kernel_rfl⟩
theorem tp_6_7 : TP 6 7 := ⟨[0, 0, 0, 0, 0, 1, 0, 0, 0, 0, 0], by decide +kernel, fun g => by kernel_rfl⟩
theorem tp_6_11 : TP 6 11 := ⟨[0, 0, 0, 0, 1, 0, 0, 0, 0, 0, 1, 0, 0, 0, 0], by decide +kernel, fun g => by kernel_rfl⟩
theorem tp_7_8 : TP 7 8 := ⟨[0, 0, 0, 0, 0, 0, 1, 0, 0, 0, 0, 0, 0], by decide +kernel, fun g => by kernel_rfl⟩
theorem tp_7_13 : TP 7 13 := ⟨[0, 0, 0, 0, 0, 1, 0, 0, 0, 0, 0, 0, 1, 0, 0, 0, 0, 0], by decide +kernel, fun g => by kernel_rfl⟩
theorem tp_8_9 : TP 8 9 := ⟨[0, 0, 0, 0, 0, 0, 0, 1, 0, 0, 0, 0, 0, 0, 0], by decide +kernel, fun g => by kernel_rfl⟩
theorem tp_8_15 : TP 8 15 := ⟨[0, 0, 0, 0, 0, 0, 1, 0, 0, 0, 0, 0, 0, 0, 1, 0, 0, 0, 0, 0, 0], by decide +kernel, fun g => by kernel_rfl⟩
theorem tp_9_10 : TP 9 10 := ⟨[0, 0, 0, 0, 0, 0, 0, 0, 1, 0, 0, 0, 0, 0, 0, 0, 0], by decide +kernel, fun g => by kernel_rfl⟩
theorem tp_9_17 : TP 9 17 := ⟨[0, 0, 0, 0, 0, 0, 0, 1, 0, 0, 0, 0, 0, 0, 0, 0, 1, 0, 0, 0, 0, 0, 0, 0], by decide +kernel, fun g => by kernel_rfl⟩
theorem tp_10_11 : TP 10 11 := ⟨[0, 0, 0, 0, 0, 0, 0, 0, 0, 1, 0, 0, 0, 0, 0, 0, 0, 0, 0], by decide +kernel, fun g => by kernel_rfl⟩
theorem tp_10_19 : TP 10 19 := ⟨[0, 0, 0, 0, 0, 0, 0, 0, 1, 0, 0, 0, 0, 0, 0, 0, 0, 0, 1, 0, 0, 0, 0, 0, 0, 0, 0], by decide +kernel, fun g => by kernel_rfl⟩
theorem tp_11_12 : TP 11 12 := ⟨[0, 0, 0, 0, 0, 0, 0, 0, 0, 0, 1, 0, 0, 0, 0, 0, 0, 0, 0, 0, 0], by decide +kernel, fun g => by kernel_rfl⟩
theorem tp_11_21 : TP 11 21 := ⟨[0, 0, 0, 0, 0, 0, 0, 0, 0, 1, 0, 0, 0, 0, 0, 0, 0, 0, 0, 0, 1, 0, 0, 0, 0, 0, 0, 0, 0, 0], by decide +kernel, fun g => by kernel_rfl⟩
theorem tp_12_13 : TP 12 13 := ⟨[0, 0, 0, 0, 0, 0, 0, 0, 0, 0, 0, 1, 0, 0, 0, 0, 0, 0, 0, 0, 0, 0, 0], by decide +kernel, fun g => by kernel_rfl⟩
theorem tp_12_23 : TP 12 23 := ⟨[0, 0, 0, 0, 0, 0, 0, 0, 0, 0, 1, 0, 0, 0, 0, 0, 0, 0, 0, 0, 0, 0, 1, 0, 0, 0, 0, 0, 0, 0, 0, 0, 0], by decide +kernel, fun g => by kernel_rfl⟩
theorem tp_13_14 : TP 13 14 := ⟨[0, 0, 0, 0, 0, 0, 0, 0, 0, 0, 0, 0, 1, 0, 0, 0, 0, 0, 0, 0, 0, 0, 0, 0, 0], by decide +kernel, fun g => by kernel_rfl⟩
theorem tp_13_25 : TP 13 25 := ⟨[0, 0, 0, 0, 0, 0, 0, 0, 0, 0, 0, 1, 0, 0, 0, 0, 0, 0, 0, 0, 0, 0, 0, 0, 1, 0, 0, 0, 0, 0, 0, 0, 0, 0, 0, 0], by decide +kernel, fun g => by kernel_rfl⟩
theorem tp_14_15 : TP 14 15 := ⟨[0, 0, 0, 0, 0, 0, 0, 0, 0, 0, 0, 0, 0, 1, 0, 0, 0, 0, 0, 0, 0, 0, 0, 0, 0, 0, 0], by decide +kernel, fun g => by kernel_rfl⟩
theorem tp_14_27 : TP 14 27 := ⟨[0, 0, 0, 0, 0, 0, 0, 0, 0, 0, 0, 0, 1, 0, 0, 0, 0, 0, 0, 0, 0, 0, 0, 0, 0, 0, 1, 0, 0, 0, 0, 0, 0, 0, 0, 0, 0, 0, 0], by decide +kernel, fun g => by kernel_rfl⟩
theorem tp_15_16 : TP 15 16 := ⟨[0, 0, 0, 0, 0, 0, 0, 0, 0, 0, 0, 0, 0, 0, 1, 0, 0, 0, 0, 0, 0, 0, 0, 0, 0, 0, 0, 0, 0], by decide +kernel, fun g => by kernel_rfl⟩
theorem tp_15_29 : TP 15 29 := ⟨[0, 0, 0, 0, 0, 0, 0, 0, 0, 0, 0, 0, 0, 1, 0, 0, 0, 0, 0, 0, 0, 0, 0, 0, 0, 0, 0, 0, 1, 0, 0, 0, 0, 0, 0, 0, 0, 0, 0, 0, 0, 0], by decide +kernel, fun g => by kernel_rfl⟩
theorem tp_16_17 : TP 16 17 := ⟨[0, 0, 0, 0, 0, 0, 0, 0, 0, 0, 0, 0, 0, 0, 0, 1, 0, 0, 0, 0, 0, 0, 0, 0, 0, 0, 0, 0, 0, 0, 0], by decide +kernel, fun g => by kernel_rfl⟩
theorem tp_16_31 : TP 16 31 := ⟨[0, 0, 0, 0, 0, 0, 0, 0, 0, 0, 0, 0, 0, 0, 1, 0, 0, 0, 0, 0, 0, 0, 0, 0, 0, 0, 0, 0, 0, 0, 1, 0, 0, 0, 0, 0, 0, 0, 0, 0, 0, 0, 0, 0, 0], by decide +kernel, fun g => by kernel_rfl⟩
theorem tp_17_18 : TP 17 18 := ⟨[0, 0, 0, 0, 0, 0, 0, 0, 0, 0, 0, 0, 0, 0, 0, 0, 1, 0, 0, 0, 0, 0, 0, 0, 0, 0, 0, 0, 0, 0, 0, 0, 0], by decide +kernel, fun g => by kernel_rfl⟩
theorem tp_17_33 : TP 17 33 := ⟨[0, 0, 0, 0, 0, 0, 0, 0, 0, 0, 0, 0, 0, 0, 0, 1, 0, 0, 0, 0, 0, 0, 0, 0, 0, 0, 0, 0, 0, 0, 0, 0, 1, 0, 0, 0, 0, 0, 0, 0, 0, 0, 0, 0, 0, 0, 0, 0], by decide +kernel, fun g => by kernel_rfl⟩
theorem tp_18_19 : TP 18 19 := ⟨[0, 0, 0, 0, 0, 0, 0, 0, 0, 0, 0, 0, 0, 0, 0, 0, 0, 1, 0, 0, 0, 0, 0, 0, 0, 0, 0, 0, 0, 0, 0, 0, 0, 0, 0], by decide +kernel, fun g => by kernel_rfl⟩
theorem tp_18_35 : TP 18 35 := ⟨[0, 0, 0, 0, 0, 0, 0, 0, 0, 0, 0, 0, 0, 0, 0, 0, 1, 0, 0, 0, 0, 0, 0, 0, 0, 0, 0, 0, 0, 0, 0, 0, 0, 0, 1, 0, 0, 0, 0, 0, 0, 0, 0, 0, 0, 0, 0, 0, 0, 0, 0], by decide +kernel, fun g => by kernel_rfl⟩
theorem tp_19_20 : TP 19 20 := ⟨[0, 0, 0, 0, 0, 0, 0, 0, 0, 0, 0, 0, 0, 0, 0, 0, 0, 0, 1, 0, 0, 0, 0, 0, 0, 0, 0, 0, 0, 0, 0, 0, 0, 0, 0, 0, 0], by decide +kernel, fun g => by kernel_rfl⟩
theorem tp_19_37 : TP 19 37 := ⟨[0, 0, 0, 0, 0, 0, 0, 0, 0, 0, 0, 0, 0, 0, 0, 0, 0, 1, 0, 0, 0, 0, 0, 0, 0, 0, 0, 0, 0, 0, 0, 0, 0, 0, 0, 0, 1, 0, 0, 0, 0, 0, 0, 0, 0, 0, 0, 0, 0, 0, 0, 0, 0, 0], by decide +kernel, fun g => by kernel_rfl⟩
theorem tp_20_21 : TP 20 21 := ⟨[0, 0, 0, 0, 0, 0, 0, 0, 0, 0, 0, 0, 0, 0, 0, 0, 0, 0, 0, 1, 0, 0, 0, 0, 0, 0, 0, 0, 0, 0, 0, 0, 0, 0, 0, 0, 0, 0, 0], by decide +kernel, fun g => by kernel_rfl⟩
theorem tp_20_39 : TP 20 39 := ⟨[0, 0, 0, 0, 0, 0, 0, 0, 0, 0, 0, 0, 0, 0, 0, 0, 0, 0, 1, 0, 0, 0, 0, 0, 0, 0, 0, 0, 0, 0, 0, 0, 0, 0, 0, 0, 0, 0, 1, 0, 0, 0, 0, 0, 0, 0, 0, 0, 0, 0, 0, 0, 0, 0, 0, 0, 0], by decide +kernel, fun g => by kernel_rfl⟩
theorem tp_21_22 : TP 21 22 := ⟨[0, 0, 0, 0, 0, 0, 0, 0, 0, 0, 0, 0, 0, 0, 0, 0, 0, 0, 0, 0, 1, 0, 0, 0, 0, 0, 0, 0, 0, 0, 0, 0, 0, 0, 0, 0, 0, 0, 0, 0, 0], by decide +kernel, fun g => by kernel_rfl⟩
theorem tp_21_41 : TP 21 41 := ⟨[0, 0, 0, 0, 0, 0, 0, 0, 0, 0, 0, 0, 0, 0, 0, 0, 0, 0, 0, 1, 0, 0, 0, 0, 0, 0, 0, 0, 0, 0, 0, 0, 0, 0, 0, 0, 0, 0, 0, 0, 1, 0, 0, 0, 0, 0, 0, 0, 0, 0, 0, 0, 0, 0, 0, 0, 0, 0, 0, 0], by decide +kernel, fun g => by kernel_rfl⟩
theorem tp_22_23 : TP 22 23 := ⟨[0, 0, 0, 0, 0, 0, 0, 0, 0, 0, 0, 0, 0, 0, 0, 0, 0, 0, 0, 0, 0, 1, 0, 0, 0, 0, 0, 0, 0, 0, 0, 0, 0, 0, 0, 0, 0, 0, 0, 0, 0, 0, 0], by decide +kernel, fun g => by kernel_rfl⟩
theorem tp_22_43 : TP 22 43 := ⟨[0, 0, 0, 0, 0, 0, 0, 0, 0, 0, 0, 0, 0, 0, 0, 0, 0, 0, 0, 0, 1, 0, 0, 0, 0, 0, 0, 0, 0, 0, 0, 0, 0, 0, 0, 0, 0, 0, 0, 0, 0, 0, 1, 0, 0, 0, 0, 0, 0, 0, 0, 0, 0, 0, 0, 0, 0, 0, 0, 0, 0, 0, 0], by decide +kernel, fun g => by kernel_rfl⟩
theorem tp_23_24 : TP 23 24 := ⟨[0, 0, 0, 0, 0, 0, 0, 0, 0, 0, 0, 0, 0, 0, 0, 0, 0, 0, 0, 0, 0, 0, 1, 0, 0, 0, 0, 0, 0, 0, 0, 0, 0, 0, 0, 0, 0, 0, 0, 0, 0, 0, 0, 0, 0], by decide +kernel, fun g => by kernel_rfl⟩
theorem tp_23_45 : TP 23 45 := ⟨[0, 0, 0, 0, 0, 0, 0, 0, 0, 0, 0, 0, 0, 0, 0, 0, 0, 0, 0, 0, 0, 1, 0, 0, 0, 0, 0, 0, 0, 0, 0, 0, 0, 0, 0, 0, 0, 0, 0, 0, 0, 0, 0, 0, 1, 0, 0, 0, 0, 0, 0, 0, 0, 0, 0, 0, 0, 0, 0, 0, 0, 0, 0, 0, 0, 0], by decide +kernel, fun g => by kernel_rfl⟩
theorem tp_24_25 : TP 24 25 := ⟨[0, 0, 0, 0, 0, 0, 0, 0, 0, 0, 0, 0, 0, 0, 0, 0, 0, 0, 0, 0, 0, 0, 0, 1, 0, 0, 0, 0, 0, 0, 0, 0, 0, 0, 0, 0, 0, 0, 0, 0, 0, 0, 0, 0, 0, 0, 0], by decide +kernel, fun g => by kernel_rfl⟩
theorem tp_24_47 : TP 24 47 := ⟨[0, 0, 0, 0, 0, 0, 0, 0, 0, 0, 0, 0, 0, 0, 0, 0, 0, 0, 0, 0, 0, 0, 1, 0, 0, 0, 0, 0, 0, 0, 0, 0, 0, 0, 0, 0, 0, 0, 0, 0, 0, 0, 0, 0, 0, 0, 1, 0, 0, 0, 0, 0, 0, 0, 0, 0, 0, 0, 0, 0, 0, 0, 0, 0, 0, 0, 0, 0, 0], by decide +kernel, fun g => by kernel_rfl⟩
theorem tp_25_26 : TP 25 26 := ⟨[0, 0, 0, 0, 0, 0, 0, 0, 0, 0, 0, 0, 0, 0, 0, 0, 0, 0, 0, 0, 0, 0, 0, 0, 1, 0, 0, 0, 0, 0, 0, 0, 0, 0, 0, 0, 0, 0, 0, 0, 0, 0, 0, 0, 0, 0, 0, 0, 0], by decide +kernel, fun g => by kernel_rfl⟩
theorem tp_25_49 : TP 25 49 := ⟨[0, 0, 0, 0, 0, 0, 0, 0, 0, 0, 0, 0, 0, 0, 0, 0, 0, 0, 0, 0, 0, 0, 0, 1, 0, 0, 0, 0, 0, 0, 0, 0, 0, 0, 0, 0, 0, 0, 0, 0, 0, 0, 0, 0, 0, 0, 0, 0, 1, 0, 0, 0, 0, 0, 0, 0, 0, 0, 0, 0, 0, 0, 0, 0, 0, 0, 0, 0, 0, 0, 0, 0], by decide +kernel, fun g => by kernel_rfl⟩
theorem tp_26_27 : TP 26 27 := ⟨[0, 0, 0, 0, 0, 0, 0, 0, 0, 0, 0, 0, 0, 0, 0, 0, 0, 0, 0, 0, 0, 0, 0, 0, 0, 1, 0, 0, 0, 0, 0, 0, 0, 0, 0, 0, 0, 0, 0, 0, 0, 0, 0, 0, 0, 0, 0, 0, 0, 0, 0], by decide +kernel, fun g => by kernel_rfl⟩
theorem tp_26_51 : TP 26 51 := ⟨[0, 0, 0, 0, 0, 0, 0, 0, 0, 0, 0, 0, 0, 0, 0, 0, 0, 0, 0, 0, 0, 0, 0, 0, 1, 0, 0, 0, 0, 0, 0, 0, 0, 0, 0, 0, 0, 0, 0, 0, 0, 0, 0, 0, 0, 0, 0, 0, 0, 0, 1, 0, 0, 0, 0, 0, 0, 0, 0, 0, 0, 0, 0, 0, 0, 0, 0, 0, 0, 0, 0, 0, 0, 0, 0], by decide +kernel, fun g => by kernel_rfl⟩
theorem tp_27_28 : TP 27 28 := ⟨[0, 0, 0, 0, 0, 0, 0, 0, 0, 0, 0, 0, 0, 0, 0, 0, 0, 0, 0, 0, 0, 0, 0, 0, 0, 0, 1, 0, 0, 0, 0, 0, 0, 0, 0, 0, 0, 0, 0, 0, 0, 0, 0, 0, 0, 0, 0, 0, 0, 0, 0, 0, 0], by decide +kernel, fun g => by kernel_rfl⟩
theorem tp_27_53 : TP 27 53 := ⟨[0, 0, 0, 0, 0, 0, 0, 0, 0, 0, 0, 0, 0, 0, 0, 0, 0, 0, 0, 0, 0, 0, 0, 0, 0, 1, 0, 0, 0, 0, 0, 0, 0, 0, 0, 0, 0, 0, 0, 0, 0, 0, 0, 0, 0, 0, 0, 0, 0, 0, 0, 0, 1, 0, 0, 0, 0, 0, 0, 0, 0, 0, 0, 0, 0, 0, 0, 0, 0, 0, 0, 0, 0, 0, 0, 0, 0, 0], by decide +kernel, fun g => by kernel_rfl⟩
theorem tp_28_29 : TP 28 29 := ⟨[0, 0, 0, 0, 0, 0, 0, 0, 0, 0, 0, 0, 0, 0, 0, 0, 0, 0, 0, 0, 0, 0, 0, 0, 0, 0, 0, 1, 0, 0, 0, 0, 0, 0, 0, 0, 0, 0, 0, 0, 0, 0, 0, 0, 0, 0, 0, 0, 0, 0, 0, 0, 0, 0, 0], by decide +kernel, fun g => by kernel_rfl⟩
theorem tp_28_55 : TP 28 55 := ⟨[0, 0, 0, 0, 0, 0, 0, 0, 0, 0, 0, 0, 0, 0, 0, 0, 0, 0, 0, 0, 0, 0, 0, 0, 0, 0, 1, 0, 0, 0, 0, 0, 0, 0, 0, 0, 0, 0, 0, 0, 0, 0, 0, 0, 0, 0, 0, 0, 0, 0, 0, 0, 0, 0, 1, 0, 0, 0, 0, 0, 0, 0, 0, 0, 0, 0, 0, 0, 0, 0, 0, 0, 0, 0, 0, 0, 0, 0, 0, 0, 0], by decide +kernel, fun g => by kernel_rfl⟩
theorem tp_29_30 : TP 29 30 := ⟨[0, 0, 0, 0, 0, 0, 0, 0, 0, 0, 0, 0, 0, 0, 0, 0, 0, 0, 0, 0, 0, 0, 0, 0, 0, 0, 0, 0, 1, 0, 0, 0, 0, 0, 0, 0, 0, 0, 0, 0, 0, 0, 0, 0, 0, 0, 0, 0, 0, 0, 0, 0, 0, 0, 0, 0, 0], by decide +kernel, fun g => by kernel_rfl⟩
theorem tp_29_57 : TP 29 57 := ⟨[0, 0, 0, 0, 0, 0, 0, 0, 0, 0, 0, 0, 0, 0, 0, 0, 0, 0, 0, 0, 0, 0, 0, 0, 0, 0, 0, 1, 0, 0, 0, 0, 0, 0, 0, 0, 0, 0, 0, 0, 0, 0, 0, 0, 0, 0, 0, 0, 0, 0, 0, 0, 0, 0, 0, 0, 1, 0, 0, 0, 0, 0, 0, 0, 0, 0, 0, 0, 0, 0, 0, 0, 0, 0, 0, 0, 0, 0, 0, 0, 0, 0, 0, 0], by decide +kernel, fun g => by kernel_rfl⟩
theorem tp_all (a b : Nat) (h1 : 2 ≤ a) (h2 : a ≤ 29) (h : b = a + 1 ∨ b = 2 * a - 1) : TP a b := by
  have q : a = 2 ∨ a = 3 ∨ a = 4 ∨ a = 5 ∨ a = 6 ∨ a = 7 ∨ a = 8 ∨ a = 9 ∨ a = 10 ∨ a = 11 ∨ a = 12 ∨ a = 13 ∨ a = 14 ∨ a = 15 ∨ a = 16 ∨ a = 17 ∨ a = 18 ∨ a = 19 ∨ a = 20 ∨ a = 21 ∨ a = 22 ∨ a = 23 ∨ a = 24 ∨ a = 25 ∨ a = 26 ∨ a = 27 ∨ a = 28 ∨ a = 29 := by omega
  rcases q with rfl | rfl | rfl | rfl | rfl | rfl | rfl | rfl | rfl | rfl | rfl | rfl | rfl | rfl | rfl | rfl | rfl | rfl | rfl | rfl | rfl | rfl | rfl | rfl | rfl | rfl | rfl | rfl
  · rcases h with rfl | rfl
    · exact tp_2_3
    · exact tp_2_3
  · rcases h with rfl | rfl
    · exact tp_3_4
    · exact tp_3_5
  · rcases h with rfl | rfl
    · exact tp_4_5
    · exact tp_4_7
  · rcases h with rfl | rfl
    · exact tp_5_6
    · exact tp_5_9
  · rcases h with rfl | rfl
    · exact tp_6_7
    · exact tp_6_11
  · rcases h with rfl | rfl
    · exact tp_7_8
    · exact tp_7_13
  · rcases h with rfl | rfl
    · exact tp_8_9
    · exact tp_8_15
  · rcases h with rfl | rfl
    · exact tp_9_10
    · exact tp_9_17
  · rcases h with rfl | rfl
    · exact tp_10_11
    · exact tp_10_19
  · rcases h with rfl | rfl
    · exact tp_11_12
    · exact tp_11_21
  · rcases h with rfl | rfl
    · exact tp_12_13
    · exact tp_12_23
  · rcases h with rfl | rfl
    · exact tp_13_14
    · exact tp_13_25
  · rcases h with rfl | rfl
    · exact tp_14_15
    · exact tp_14_27
  · rcases h with rfl | rfl
    · exact tp_15_16
    · exact tp_15_29
  · rcases h with rfl | rfl
    · exact tp_16_17
    · exact tp_16_31
  · rcases h with rfl | rfl
    · exact tp_17_18
    · exact tp_17_33
  · rcases h with rfl | rfl
    · exact tp_18_19
    · exact tp_18_35
  · rcases h with rfl | rfl
    · exact tp_19_20
    · exact tp_19_37
  · rcases h with rfl | rfl
    · exact tp_20_21
    · exact tp_20_39
  · rcases h with rfl | rfl
    · exact tp_21_22
    · exact tp_21_41
  · rcases h with rfl | rfl
    · exact tp_22_23
    · exact tp_22_43
  · rcases h with rfl | rfl
    · exact tp_23_24
    · exact tp_23_45
  · rcases h with rfl | rfl
    · exact tp_24_25
    · exact tp_24_47
  · rcases h with rfl | rfl
    · exact tp_25_26
    · exact tp_25_49
  · rcases h with rfl | rfl
    · exact tp_26_27
    · exact tp_26_51
  · rcases h with rfl | rfl
    · exact tp_27_28
    · exact tp_27_53
  · rcases h with rfl | rfl
    · exact tp_28_29
    · exact tp_28_55
  · rcases h with rfl | rfl
    · exact tp_29_30
    · exact tp_29_57
end Wk
set_option Elab.async false
set_option linter.all false
set_option maxRecDepth 100000
set_option maxHeartbeats 1000000
namespace Wk
open PySem L2 Dl Rw
variable {g : G}
/-! ### two blocks that part as late as they can -/
structure Tp (a b : Nat) (W : List Int) : Prop where
  ln : W.length = a + b - 2
  mks : ∀ m ∈ W, 0 ≤ m ∧ m ≤ 3
  al : ∀ i, i < a + b - 2 → W[i % a]? = W[i % b]?
  un : W[(a + b - 2) % a]? ≠ W[(a + b - 2) % b]?
  en : W[a - 1]? ≠ W[b - 1]?
theorem tp_of {a b : Nat} {W : List Int} (h : tpOk a b W = true) : Tp a b W := by
  unfold tpOk at h
  simp only [Bool.and_eq_true, List.all_eq_true, decide_eq_true_eq, List.mem_range, Bool.not_eq_true', decide_eq_false_iff_not] at h
  obtain ⟨⟨⟨⟨h1, h2⟩, h3⟩, h4⟩, h5⟩ := h
  exact ⟨h1, h2, h3, h4, h5⟩
theorem rep_nth2 (t p : Nat) (l : List Int) : (rep t l)[p]? = if p < t * l.length then l[p % l.length]? else none := by
  split
  · rename_i h; exact rep_nth h
  · rename_i h; exact List.getElem?_eq_none (by rw [rep_length]; omega)
theorem take_nth {W : List Int} {a i : Nat} (h : i < a) : (W.take a)[i]? = W[i]? := by rw [List.getElem?_take]; simp [h]
/-- X and Y: the two blocks' words -/
theorem tp_ul {a b : Nat} {W : List Int} (t : Tp a b W) (ha : 2 ≤ a) (hb : a < b) (m n : Nat) (hm : b + 1 ≤ m) (hn : a + 1 ≤ n) : Ul (rep m (W.take a)) (rep n (W.take b)) (some (a + b - 2)) := by
  have la : (W.take a).length = a := by rw [List.length_take, t.ln]; omega
  have lb : (W.take b).length = b := by rw [List.length_take, t.ln]; omega
  have s1 : a + b - 2 < m * a := by
    have : (b + 1) * a ≤ m * a := Nat.mul_le_mul_right _ hm
    have h2 : (b + 1) * a = b * a + a := Nat.succ_mul b a
    have h3 : b * 2 ≤ b * a := Nat.mul_le_mul_left _ ha
    omega
  have s2 : a + b - 2 < n * b := by
    have : (a + 1) * b ≤ n * b := Nat.mul_le_mul_right _ hn
    have h2 : (a + 1) * b = a * b + b := Nat.succ_mul a b
    have h3 : 2 * b ≤ a * b := Nat.mul_le_mul_right _ ha
    omega
  have at1 : ∀ i, i ≤ a + b - 2 → (rep m (W.take a))[i]? = W[i % a]? := fun i hi => by
    rw [rep_nth (by rw [la]; omega), la, take_nth (Nat.mod_lt _ (by omega))]
  have at2 : ∀ i, i ≤ a + b - 2 → (rep n (W.take b))[i]? = W[i % b]? := fun i hi => by
    rw [rep_nth (by rw [lb]; omega), lb, take_nth (Nat.mod_lt _ (by omega))]
  refine ⟨fun i hi => ?_, ?_⟩
  · rw [at1 i (by omega), at2 i (by omega)]; exact t.al i hi
  · rw [at1 _ (Nat.le_refl _), at2 _ (Nat.le_refl _)]; exact t.un
theorem rev_first (X : List Int) : X.reverse[0]? = X[X.length - 1]? := by
  cases h : X.length with
  | zero => rw [List.length_eq_zero_iff.mp h]; rfl
  | succ n => rw [List.getElem?_reverse (by omega), h]; rfl
theorem tp_last {a b : Nat} {W : List Int} (t : Tp a b W) (ha : 2 ≤ a) (hb : a < b) (m n : Nat) (hm : 1 ≤ m) (hn : 1 ≤ n) :
    (rep m (W.take a))[(rep m (W.take a)).length - 1]? = W[a - 1]? ∧ (rep n (W.take b))[(rep n (W.take b)).length - 1]? = W[b - 1]? := by
  have la : (W.take a).length = a := by rw [List.length_take, t.ln]; omega
  have lb : (W.take b).length = b := by rw [List.length_take, t.ln]; omega
  have e : ∀ (k c : Nat), 1 ≤ k → 2 ≤ c → (k * c - 1) % c = c - 1 ∧ k * c - 1 < k * c := fun k c hk hc => by
    obtain ⟨j, rfl⟩ : ∃ j, k = j + 1 := ⟨k - 1, by omega⟩
    rw [Nat.succ_mul]
    have : j * c + c - 1 = (c - 1) + c * j := by rw [Nat.mul_comm c j]; omega
    rw [this, Nat.add_mul_mod_self_left, Nat.mod_eq_of_lt (by omega)]
    exact ⟨rfl, by rw [Nat.mul_comm c j]; omega⟩
  obtain ⟨e1, e2⟩ := e m a hm ha
  obtain ⟨e3, e4⟩ := e n b hn (by omega)
  rw [rep_length, rep_length, la, lb]
  refine ⟨?_, ?_⟩
  · rw [rep_nth (by rw [la]; exact e2), la, e1, take_nth (by omega)]
  · rw [rep_nth (by rw [lb]; exact e4), lb, e3, take_nth (by omega)]
theorem tp_rul {a b : Nat} {W : List Int} (t : Tp a b W) (ha : 2 ≤ a) (hb : a < b) (m n : Nat) (hm : 1 ≤ m) (hn : 1 ≤ n) : Ul (rep m (W.take a)).reverse (rep n (W.take b)).reverse (some 0) := by
  obtain ⟨h1, h2⟩ := tp_last t ha hb m n hm hn
  refine Ul.zero ?_
  rw [rev_first, rev_first, h1, h2]
  exact t.en
abbrev endB : Ms := (sIf (asB (eOp neF (eCall 2 F__law_mark (aCons (eVar 0) (aCons (eOp (arI subI) (eOp (arI subI) (eOp ixF (eVar 2) (eC (.int 0))) (eC (.int 1))) (eVar 3)) aNil))) (eCall 2 F__law_mark (aCons (eVar 1) (aCons (eOp (arI subI) (eOp (arI subI) (eOp ixF (eVar 2) (eC (.int 1))) (eC (.int 1))) (eVar 3)) aNil))))) (sRet (eVar 3)) sNil)
theorem end_ok (p r : Row) (hp : Rk p) (hr : Rk r) (l1 : 1 ≤ (wd p).length) (l2 : 1 ≤ (wd r).length) (ne : (wd p)[(wd p).length - 1]? ≠ (wd r)[(wd r).length - 1]?) : F__law_end [rowD p, rowD r] g = .ok (.int 0) g := by
  have f1 := hp.few
  have f2 := hr.few
  have e1 := F__law_size_row (g := g) p hp.sm (by omega)
  have e2 := F__law_size_row (g := g) r hr.sm (by omega)
  obtain ⟨c, hc⟩ : ∃ c, (wd p)[(wd p).length - 1]? = some c := ⟨_, List.getElem?_eq_getElem (by omega)⟩
  obtain ⟨d, hd⟩ : ∃ d, (wd r)[(wd r).length - 1]? = some d := ⟨_, List.getElem?_eq_getElem (by omega)⟩
  have e3 := F__law_mark_row (g := g) p _ c hp.bk hc
  have e4 := F__law_mark_row (g := g) r _ d hr.bk hd
  rw [hc, hd] at ne
  have nd : ¬ c = d := fun q => ne (by rw [q])
  have k1 : (((wd p).length - 1 : Nat) : Int) = ((wd p).length : Int) - 1 := by omega
  have k2 : (((wd r).length - 1 : Nat) : Int) = ((wd r).length : Int) - 1 := by omega
  rw [k1] at e3
  rw [k2] at e4
  obtain ⟨n, hn⟩ : ∃ n : Nat, min (min ((wd p).length : Int) ((wd r).length : Int)) 200 = ((n + 1 : Nat) : Int) := ⟨(min (min ((wd p).length : Int) ((wd r).length : Int)) 200 - 1).toNat, by omega⟩
  have sm : smallI ((n + 1 : Nat) : Int) = true := small_lit _ (by omega)
  have i0 : ixF (.lst [.int (wd p).length, .int (wd r).length]) (.int 0) g = .ok (.int (wd p).length) g := ixF_lst (j := 0) rfl
  have i1 : ixF (.lst [.int (wd p).length, .int (wd r).length]) (.int 1) g = .ok (.int (wd r).length) g := ixF_lst (j := 1) rfl
  have st : loopF (bOne (bName 3)) [3] endB (rgD 0 1 (n + 1)) [.im (rowD p), .im (rowD r), .im (.lst [.int (wd p).length, .int (wd r).length]), .no] g = .ok (.rt (.int 0)) g := by
    rw [show rgD 0 1 (n + 1) = .one (.int 0) :: rgD 1 1 n from rfl, loop_step (ρ1 := [.im (rowD p), .im (rowD r), .im (.lst [.int (wd p).length, .int (wd r).length]), .im (.int 0)]) rfl]
    simp [i0, i1, e3, e4, nd]
  show fin (sSeq (sSet 2 (eLst (eList (aCons (eCall 1 F__law_size (aCons (eVar 0) aNil)) (aCons (eCall 1 F__law_size (aCons (eVar 1) aNil)) aNil))))) (sSeq (sFor (yR1 (aCons (eArgs min3F (aCons (eOp ixF (eVar 2) (eC (.int 0))) (aCons (eOp ixF (eVar 2) (eC (.int 1))) (aCons (eC (.int 200)) aNil)))) aNil)) (bOne (bName 3)) [3] endB) (sRet (eArgs minSF (aCons (eVar 2) aNil)))) (entry 4 [rowD p, rowD r]) g) = _
  generalize endB = B at *
  rw [show ((n + 1 : Nat) : Int) = (n : Int) + 1 from rfl] at hn sm
  have tn : ((n : Int) + 1).toNat = n + 1 := by omega
  simp [entry, e1, e2, i0, i1, hn, sm, tn, st]
theorem mul_nat (a b : Nat) (ha : a ≤ 10 ^ 35) (hb : b ≤ 10 ^ 35) : mulI (a : Int) (b : Int) = some ((a * b : Nat) : Int) := by
  rw [mulI_nn (by omega) (by omega) (by omega) (by omega)]
  simp
theorem like_ok8 (L : List D) (h : ∀ x ∈ L, CB 39 x 4000) (hl : L.length ≤ 10) : F__law_like [.lst L, .lst L] g = .ok (.bl true) g := like_lst L h hl
theorem nat_cb (n : Nat) (i : Nat) (h : i < 10 ^ 60) : CB n (.int (i : Int)) 4000 := (int_cb n i (by omega) (by omega)).mono (by decide)
theorem bl_cb4 (n : Nat) (b : Bool) : CB n (.bl b) 4000 := (bl_cb n b).mono (by decide)
theorem non_cb4 (n : Nat) : CB n .non 4000 := (non_cb n).mono (by decide)
theorem ul_cb (n : Nat) (o : Option Nat) (h : ∀ k, o = some k → k < 10 ^ 60) : CB n (ulD o) 4000 := by
  cases o with
  | none => exact non_cb4 n
  | some k => exact nat_cb n k (h k rfl)
theorem ask6_cb (X Y : List Int) (o : Option Nat) (h : ∀ k, o = some k → k < 10 ^ 60) : ∀ x ∈ ask6 X Y o, CB 39 x 4000 := fun x hx => by
  have c := ul_cb 39 o h
  simp only [ask6, List.mem_cons, List.not_mem_nil, or_false] at hx
  rcases hx with rfl | rfl | rfl | rfl | rfl | rfl <;> first | exact c | exact bl_cb4 39 _
theorem ask8_cb (X Y : List Int) (o o' : Option Nat) (h : ∀ k, o = some k → k < 10 ^ 60) (h' : ∀ k, o' = some k → k < 10 ^ 60) (hx : X.length < 10 ^ 60) (hy : Y.length < 10 ^ 60) : ∀ x ∈ ask8 X Y o o', CB 39 x 4000 := fun x m => by
  unfold ask8 at m
  rw [List.mem_append] at m
  have c : ∀ Z : List Int, Z.length < 10 ^ 60 → CB 39 (.int (cend Z o' : Nat)) 4000 := fun Z hz => by
    cases o' with
    | none => exact nat_cb 39 _ hz
    | some k => exact nat_cb 39 _ (h' k rfl)
  rcases m with m | m
  · exact ask6_cb X Y o h x m
  · simp only [List.mem_cons, List.not_mem_nil, or_false] at m
    rcases m with rfl | rfl
    · exact c X hx
    · exact c Y hy
end Wk
set_option Elab.async false
set_option linter.all false
set_option maxRecDepth 100000
set_option maxHeartbeats 4000000
namespace Wk
open PySem L2 Dl Rw
variable {g : G}
theorem take_mem {W : List Int} {a : Nat} {m : Int} (h : m ∈ W.take a) : m ∈ W := List.mem_of_mem_take h
theorem tp_row {a b : Nat} {W : List Int} (t : Tp a b W) (c n : Nat) (hc : 1 ≤ c) (hc2 : c ≤ 60) (hcl : c ≤ W.length) (hn : 1 ≤ n) (hn2 : n ≤ 10 ^ 30) : Rk [(W.take c, (n : Int))] ∧ wd [(W.take c, (n : Int))] = rep n (W.take c) := by
  have lc : (W.take c).length = c := by rw [List.length_take]; omega
  refine ⟨⟨by show 1 ≤ 60; decide, fun x hx => ?_⟩, ?_⟩
  · have : x = (W.take c, (n : Int)) := by simpa using hx
    subst this
    exact ⟨by show 1 ≤ (W.take c).length; omega, by show (W.take c).length ≤ 60; omega, fun m hm => t.mks m (take_mem hm), by show (1 : Int) ≤ (n : Int); omega, by show (n : Int) ≤ 10 ^ 30; omega⟩
  · show bw (W.take c, (n : Int)) ++ [] = _
    rw [List.append_nil]; rfl
theorem late_facts (a b : Nat) (W : List Int) (t : Tp a b W) (ha : 2 ≤ a) (ha2 : a ≤ 29) (hb : a < b) (hb2 : b ≤ 57) (m n : Nat) (hm : b + 1 ≤ m) (hn : a + 1 ≤ n) (hm2 : m ≤ 10 ^ 30) (hn2 : n ≤ 10 ^ 30) (q1 q2 : Row) (k1 : Rk q1) (k2 : Rk q2) (w1 : wd q1 = rep m (W.take a)) (w2 : wd q2 = rep n (W.take b)) :
    ∃ (c d : Int), (rep m (W.take a))[a + b - 2]? = some c ∧ (rep n (W.take b))[a + b - 2]? = some d ∧ (∀ g : G, F__law_asked [rowD q1, rowD q2] g = .ok (.lst [.int (a + b - 2 : Nat), .int (a + b - 2 : Nat), .bl false, .bl false,
      .bl (if m * a = n * b then decide (c < d) else decide (m * a < n * b)), .bl (!(if m * a = n * b then decide (c < d) else decide (m * a < n * b))), .int 0, .int 0]) g) := by
  have la : (W.take a).length = a := by rw [List.length_take, t.ln]; omega
  have lb : (W.take b).length = b := by rw [List.length_take, t.ln]; omega
  have u := tp_ul t ha hb m n hm hn
  have u' := tp_rul t ha hb m n (by omega) (by omega)
  have L1 : (rep m (W.take a)).length = m * a := by rw [rep_length, la]
  have L2 : (rep n (W.take b)).length = n * b := by rw [rep_length, lb]
  have s1 : a + b - 2 < m * a := by
    have : (b + 1) * a ≤ m * a := Nat.mul_le_mul_right _ hm
    have h2 : (b + 1) * a = b * a + a := Nat.succ_mul b a
    have h3 : b * 2 ≤ b * a := Nat.mul_le_mul_left _ ha
    omega
  have s2 : a + b - 2 < n * b := by
    have : (a + 1) * b ≤ n * b := Nat.mul_le_mul_right _ hn
    have h2 : (a + 1) * b = a * b + b := Nat.succ_mul a b
    have h3 : 2 * b ≤ a * b := Nat.mul_le_mul_right _ ha
    omega
  obtain ⟨c, hc⟩ : ∃ c, (rep m (W.take a))[a + b - 2]? = some c := ⟨_, List.getElem?_eq_getElem (by omega)⟩
  obtain ⟨d, hd⟩ : ∃ d, (rep n (W.take b))[a + b - 2]? = some d := ⟨_, List.getElem?_eq_getElem (by omega)⟩
  have nd : c ≠ d := fun q => u.2 (by rw [hc, hd, q])
  refine ⟨c, d, hc, hd, fun g => ?_⟩
  have A := asked_ok (g := g) q1 q2 k1 k2 (by rw [w1, w2]; exact u) (by rw [w1, w2]; exact u')
  rw [A, w1, w2]
  have gc : (rep m (W.take a)).getD (a + b - 2) 0 = c := by rw [List.getD_eq_getElem?_getD, hc]; rfl
  have gd : (rep n (W.take b)).getD (a + b - 2) 0 = d := by rw [List.getD_eq_getElem?_getD, hd]; rfl
  have h1 : ahd (rep m (W.take a)) (rep n (W.take b)) (some (a + b - 2)) = if m * a = n * b then decide (c < d) else decide (m * a < n * b) := by
    unfold ahd
    dsimp only
    rw [L1, L2, gc, gd]
  have h2 : ahd (rep n (W.take b)) (rep m (W.take a)) (some (a + b - 2)) = !(if m * a = n * b then decide (c < d) else decide (m * a < n * b)) := by
    unfold ahd
    dsimp only
    rw [L1, L2, gc, gd]
    by_cases z : m * a = n * b
    · rw [if_pos z, if_pos z.symm]
      by_cases y : c < d
      · rw [decide_eq_true y, decide_eq_false (by omega)]; rfl
      · rw [decide_eq_false y, decide_eq_true (by omega)]; rfl
    · rw [if_neg z, if_neg (fun y => z y.symm)]
      by_cases y : m * a < n * b
      · rw [decide_eq_true y, decide_eq_false (by omega)]; rfl
      · rw [decide_eq_false y, decide_eq_true (by omega)]; rfl
  unfold ask8 ask6
  rw [h1, h2]
  rfl
theorem parts_late_ok (k : Nat) (hg : Gk k g) (hk : k ≤ 10 ^ 4) : ∃ g', F__law_parts_late [.hdl] g = .ok (.bl true) g' ∧ Gk (k + 1000) g' := by
  obtain ⟨v, g1, e1, v0, v1, hg1⟩ := F__law_draw_ok k 28 hg (by omega) (by decide) (by decide)
  obtain ⟨u, g2, e2, u0, u1, hg2⟩ := F__law_draw_ok (k + 1) 2 hg1 (by omega) (by decide) (by decide)
  obtain ⟨t1, g3, e3, t10, t11, hg3⟩ := F__law_times_ok (k + 2) hg2 (by omega)
  obtain ⟨t2, g4, e4, t20, t21, hg4⟩ := F__law_times_ok (k + 12) hg3 (by omega)
  obtain ⟨a, ha⟩ : ∃ a : Nat, 2 + v = (a : Int) := ⟨(2 + v).toNat, by omega⟩
  obtain ⟨b, hb⟩ : ∃ b : Nat, (if u = 0 then (a : Int) + 1 else 2 * (a : Int) - 1) = (b : Int) ∧ (b = a + 1 ∨ b = 2 * a - 1) := by
    by_cases z : u = 0
    · exact ⟨a + 1, by rw [if_pos z]; rfl, .inl rfl⟩
    · exact ⟨2 * a - 1, by rw [if_neg z]; omega, .inr rfl⟩
  obtain ⟨hb, hb'⟩ := hb
  have a2 : 2 ≤ a := by omega
  have a29 : a ≤ 29 := by omega
  have ab : a < b := by omega
  have b57 : b ≤ 57 := by omega
  obtain ⟨W, hW, eW⟩ := tp_all a b a2 a29 hb'
  have t := tp_of hW
  obtain ⟨m, hm⟩ : ∃ m : Nat, min ((b : Int) + t1) 1000000000000000000000000000000 = (m : Int) := ⟨(min ((b : Int) + t1) 1000000000000000000000000000000).toNat, by omega⟩
  obtain ⟨n, hn⟩ : ∃ m : Nat, min ((a : Int) + t2) 1000000000000000000000000000000 = (m : Int) := ⟨(min ((a : Int) + t2) 1000000000000000000000000000000).toNat, by omega⟩
  have m1 : b + 1 ≤ m := by omega
  have n1 : a + 1 ≤ n := by omega
  have m2 : m ≤ 10 ^ 30 := by omega
  have n2 : n ≤ 10 ^ 30 := by omega
  have Wl := t.ln
  obtain ⟨k1, w1⟩ := tp_row t a m (by omega) (by omega) (by omega) (by omega) m2
  obtain ⟨k2, w2⟩ := tp_row t b n (by omega) (by omega) (by omega) (by omega) n2
  obtain ⟨q1, g5, e5, kq1, lq1, wq1, hg5⟩ := rewritten_ok (g := g4) (k + 22) _ k1.bk (by simp) hg4 (by omega)
  obtain ⟨q2, g6, e6, kq2, lq2, wq2, hg6⟩ := rewritten_ok (g := g5) (k + 32) _ k2.bk (by simp) hg5 (by omega)
  simp only [List.length_singleton] at lq1 lq2
  obtain ⟨c, d, hc, hd, ask⟩ := late_facts a b W t a2 a29 ab b57 m n m1 n1 m2 n2 q1 q2 ⟨by omega, kq1⟩ ⟨by omega, kq2⟩ (wq1.trans w1) (wq2.trans w2)
  have la : (W.take a).length = a := by rw [List.length_take]; omega
  have lb : (W.take b).length = b := by rw [List.length_take]; omega
  have L1 : (wd [(W.take a, (m : Int))]).length = m * a := by rw [w1, rep_length, la]
  have L2 : (wd [(W.take b, (n : Int))]).length = n * b := by rw [w2, rep_length, lb]
  have s1 : 1 ≤ m * a := Nat.mul_pos (by omega) (by omega)
  have s2 : 1 ≤ n * b := Nat.mul_pos (by omega) (by omega)
  have e7 := F__law_size_row (g := g4) _ k1.sm (by simp)
  have e8 := F__law_size_row (g := g4) _ k2.sm (by simp)
  rw [L1] at e7
  rw [L2] at e8
  have e9 := F__law_mark_row (g := g4) _ (a + b - 2) c k1.bk (by rw [w1]; exact hc)
  have e10 := F__law_mark_row (g := g4) _ (a + b - 2) d k2.bk (by rw [w2]; exact hd)
  obtain ⟨y1, y2⟩ := tp_last t a2 ab m n (by omega) (by omega)
  have e11 := end_ok (g := g4) _ _ k1 k2 (by omega) (by omega) (by rw [w1, w2, y1, y2]; exact t.en)
  have pl : ((a + b - 2 : Nat) : Int) = (a : Int) + b - 2 := by omega
  rw [pl] at e9 e10
  have z1 := sl_to (g := g4) W a
  have z2 := sl_to (g := g4) W b
  have T1 : D.tup [.tup [marksD (W.take a), .int m]] = rowD [(W.take a, (m : Int))] := rfl
  have T2 : D.tup [.tup [marksD (W.take b), .int n]] = rowD [(W.take b, (n : Int))] := rfl
  have i0 : ∀ x y : Int, ixF (.lst [.int x, .int y]) (.int 0) g4 = .ok (.int x) g4 := fun x y => ixF_lst (j := 0) rfl
  have i1 : ∀ x y : Int, ixF (.lst [.int x, .int y]) (.int 1) g4 = .ok (.int y) g4 := fun x y => ixF_lst (j := 1) rfl
  have p30 : powI 10 30 = some 1000000000000000000000000000000 := by decide +kernel
  have mm : mulI 2 (a : Int) = some (2 * (a : Int)) := mulI_nn (by decide) (by decide) (by omega) (by omega)
  have LK := ask g6
  have st1 : F__law_like [.lst [.int (a + b - 2 : Nat), .int (a + b - 2 : Nat), .bl false, .bl false, .bl (if m * a = n * b then decide (c < d) else decide (m * a < n * b)), .bl (!(if m * a = n * b then decide (c < d) else decide (m * a < n * b))), .int 0, .int 0], .lst [.int (a + b - 2 : Nat), .int (a + b - 2 : Nat), .bl false, .bl false, .bl (if m * a = n * b then decide (c < d) else decide (m * a < n * b)), .bl (!(if m * a = n * b then decide (c < d) else decide (m * a < n * b))), .int 0, .int 0]] g6 = .ok (.bl true) g6 := by
    refine like_lst _ (fun x hx => ?_) (by simp)
    simp only [List.mem_cons, List.not_mem_nil, or_false] at hx
    have n0 := nat_cb 39 0 (by decide)
    rcases hx with rfl | rfl | rfl | rfl | rfl | rfl | rfl | rfl <;> first | exact bl_cb4 39 _ | exact n0 | exact nat_cb 39 _ (by omega)
  refine ⟨g6, ?_, hg6.mono (by simp only [List.length_singleton]; omega)⟩
  rw [pl] at LK st1
  generalize rowD [(W.take a, (m : Int))] = R1 at *
  generalize rowD [(W.take b, (n : Int))] = R2 at *
  generalize marksD (W.take a) = M1 at *
  generalize marksD (W.take b) = M2 at *
  generalize marksD W = MW at *
  generalize rowD q1 = Q1 at *
  generalize rowD q2 = Q2 at *
  have eW := eW g2
  have pz : (((m * a : Nat) : Int) = ((n * b : Nat) : Int)) ↔ m * a = n * b := by omega
  have py : (((m * a : Nat) : Int) < ((n * b : Nat) : Int)) ↔ m * a < n * b := by omega
  have fst : F__law_parts_late [.hdl] g = fin (m__law_parts_late [.im .hdl, .no, .no, .no, .no, .no, .no, .no, .no, .no, .no, .no, .no] g) := rfl
  rw [fst]
  unfold m__law_parts_late
  refine fin_seq (g' := g1) (ρ' := [.im .hdl, .im (.int a), .no, .no, .no, .no, .no, .no, .no, .no, .no, .no, .no]) (by simp [e1, ha]) ?_
  refine fin_seq (g' := g2) (ρ' := [.im .hdl, .im (.int a), .im (.int b), .no, .no, .no, .no, .no, .no, .no, .no, .no, .no]) (by rw [← hb]; by_cases z : u = 0 <;> simp [e2, z, mm]) ?_
  refine fin_seq (g' := g2) (ρ' := [.im .hdl, .im (.int a), .im (.int b), .im MW, .no, .no, .no, .no, .no, .no, .no, .no, .no]) (by simp [eW]) ?_
  refine fin_seq (g' := g4) (ρ' := [.im .hdl, .im (.int a), .im (.int b), .im MW, .im (.int m), .im (.int n), .no, .no, .no, .no, .no, .no, .no]) (by simp [e3, e4, p30, hm, hn]) ?_
  refine fin_seq (g' := g4) (ρ' := [.im .hdl, .im (.int a), .im (.int b), .im MW, .im (.int m), .im (.int n), .im R1, .im R2, .no, .no, .no, .no, .no]) (by simp [z1, z2, T1, T2]) ?_
  refine fin_seq (g' := g4) (ρ' := [.im .hdl, .im (.int a), .im (.int b), .im MW, .im (.int m), .im (.int n), .im R1, .im R2, .im (.lst [.int (m * a : Nat), .int (n * b : Nat)]), .im (.int ((a : Int) + b - 2)), .no, .no, .no]) (by simp [e7, e8]) ?_
  refine fin_seq (g' := g4) (ρ' := [.im .hdl, .im (.int a), .im (.int b), .im MW, .im (.int m), .im (.int n), .im R1, .im R2, .im (.lst [.int (m * a : Nat), .int (n * b : Nat)]), .im (.int ((a : Int) + b - 2)), .im (.bl (decide (c < d))), .no, .no]) (by simp [e9, e10]) ?_
  refine fin_seq (g' := g4) (ρ' := [.im .hdl, .im (.int a), .im (.int b), .im MW, .im (.int m), .im (.int n), .im R1, .im R2, .im (.lst [.int (m * a : Nat), .int (n * b : Nat)]), .im (.int ((a : Int) + b - 2)), .im (.bl (if m * a = n * b then decide (c < d) else decide (m * a < n * b))), .no, .no]) (by
    have i0' := i0 (m * a : Nat) (n * b : Nat)
    have i1' := i1 (m * a : Nat) (n * b : Nat)
    generalize hS : ((m * a : Nat) : Int) = S at *
    generalize hT : ((n * b : Nat) : Int) = T at *
    by_cases z : S = T
    · rw [if_pos (pz.mp z)]
      subst z
      simp [i0', i1']
    · rw [if_neg (fun y => z (pz.mpr y))]
      have : decide (m * a < n * b) = decide (S < T) := by
        by_cases y : S < T
        · rw [decide_eq_true y, decide_eq_true (py.mp y)]
        · rw [decide_eq_false y, decide_eq_false (fun x => y (py.mpr x))]
      rw [this]
      simp [i0', i1', z]) ?_
  refine fin_seq (g' := g4) (ρ' := [.im .hdl, .im (.int a), .im (.int b), .im MW, .im (.int m), .im (.int n), .im R1, .im R2, .im (.lst [.int (m * a : Nat), .int (n * b : Nat)]), .im (.int ((a : Int) + b - 2)), .im (.bl (if m * a = n * b then decide (c < d) else decide (m * a < n * b))), .im (.int 0), .no]) (by simp [e11]) ?_
  generalize (if m * a = n * b then decide (c < d) else decide (m * a < n * b)) = BB at *
  simp [e5, e6, LK, st1]
end Wk
set_option Elab.async false
set_option linter.all false
set_option maxRecDepth 100000
set_option maxHeartbeats 4000000
namespace Wk
open PySem L2 Dl Rw
variable {g : G}
theorem rowM_loop (M : Int) (hM : 1 ≤ M) (hM2 : M ≤ 4) : ∀ (m : Nat) (lo : Int) (p : Row) (k : Nat) (g : G), Gk k g → k + 300 * m ≤ 10 ^ 6 → Bks p → p.length + m ≤ 1000 →
    ∃ (q : Row) (g' : G), loopF (bOne (bName 3)) [3, 4] rowB (rgD lo 1 m) [.im .hdl, .im (.int M), .ow (p.map blkD), .no, .no] g = .ok (.nx [.im .hdl, .im (.int M), .ow (q.map blkD), .no, .no]) g' ∧ Bks q ∧ q.length = p.length + m ∧ (wd q).length ≤ (wd p).length + 12 * m ∧ Gk (k + 300 * m) g'
  | 0, lo, p, k, g, hg, _, hp, _ => ⟨p, g, rfl, hp, rfl, by omega, hg⟩
  | m + 1, lo, p, k, g, hg, hk, hp, hl => by
    obtain ⟨a, g1, e1, a0, a1, hg1⟩ := F__law_draw_ok k M hg (by omega) hM (by omega)
    obtain ⟨l, g2, e2, hll, hlb, hg2⟩ := F__law_marks_ok (k + 1) M 3 hg1 (by omega) hM (by omega) (by decide) (by decide)
    obtain ⟨t, g3, e3, t0, t1, hg3⟩ := F__law_draw_ok (k + 1 + 200) 3 hg2 (by omega) (by decide) (by decide)
    have hb : Bk (a :: l, 1 + t) := ⟨by show 1 ≤ (a :: l).length; simp, by show (a :: l).length ≤ 60; rw [List.length_cons]; omega, fun x hx => by
      rcases List.mem_cons.mp hx with q | q
      · subst q; omega
      · have := hlb x q; omega, by show 1 ≤ 1 + t; omega, by show 1 + t ≤ 10 ^ 30; omega⟩
    have hp' : Bks (p ++ [(a :: l, 1 + t)]) := fun x hx => by
      rcases List.mem_append.mp hx with q | q
      · exact hp x q
      · rw [List.mem_singleton] at q
        subst q
        exact hb
    obtain ⟨q, g5, e5, hq, hql, hqw, hg5⟩ := rowM_loop M hM hM2 m (lo + 1) (p ++ [(a :: l, 1 + t)]) (k + 300) g3 (hg3.mono (by omega)) (by omega) hp' (by rw [List.length_append, List.length_singleton]; omega)
    have hz : bsz (a :: l, 1 + t) ≤ 12 := by
      unfold bsz
      show (1 + t).toNat * (a :: l).length ≤ 12
      have h1 : (1 + t).toNat ≤ 3 := by omega
      have h2 : (a :: l).length ≤ 4 := by rw [List.length_cons]; omega
      exact Nat.mul_le_mul h1 h2
    rw [wd_len_app] at hqw
    refine ⟨q, g5, ?_, hq, by rw [hql, List.length_append, List.length_singleton]; omega, by omega, hg5.mono (by omega)⟩
    have hpl : p.length < 1000000 := by omega
    have hll2 : 1 + l.length ≤ 1000000 := by omega
    rw [show rgD lo 1 (m + 1) = .one (.int lo) :: rgD (lo + 1) 1 m from rfl, loop_step (ρ1 := [.im .hdl, .im (.int M), .ow (p.map blkD), .im (.int lo), .no]) (by simp)]
    rw [List.map_append] at e5
    simp [e1, e2, e3, hpl, hll2]
    simp [blkD, marksD] at e5
    simp [e5]
theorem rowM_ok (M : Int) (hM : 1 ≤ M) (hM2 : M ≤ 4) (k : Nat) (hg : Gk k g) (hk : k ≤ 10 ^ 5) : ∃ (r : Row) (g' : G), F__law_row [.hdl, .int M] g = .ok (rowD r) g' ∧ Rk r ∧ (wd r).length ≤ 300 ∧ Gk (k + 1000) g' := by
  obtain ⟨s, g1, e1, s0, s1, hg1⟩ := F__law_draw_ok k 4 hg (by omega) (by decide) (by decide)
  obtain ⟨m, rfl⟩ : ∃ m : Nat, s = (m : Int) := ⟨s.toNat, by omega⟩
  obtain ⟨r, g2, e2, hr, hl, hw, hg2⟩ := rowM_loop M hM hM2 m 0 [] (k + 1) g1 hg1 (by omega) (fun x hx => by cases hx) (by simp; omega)
  rw [List.length_nil, Nat.zero_add] at hl
  rw [wd_nil, List.length_nil, Nat.zero_add] at hw
  refine ⟨r, g2, ?_, ⟨by omega, hr⟩, by omega, hg2.mono (by omega)⟩
  have hss : smallI (m : Int) = true := small_lit _ (by omega)
  rw [List.map_nil] at e2
  simp [F__law_row, bodyF, entry, m__law_row, e1, hss, e2, rowD]
theorem ul_same (X : List Int) : Ul X X none := rfl
/-- one mark changed -/
theorem ul_bent {X : List Int} {p : Nat} {c m : Int} (h : X[p]? = some c) (hm : m ≠ c) : Ul X (X.take p ++ ([m] ++ X.drop (p + 1))) (some p) := by
  have hp : p < X.length := by
    rcases Nat.lt_or_ge p X.length with z | z
    · exact z
    · rw [List.getElem?_eq_none z] at h; cases h
  have lt : (X.take p).length = p := by rw [List.length_take]; omega
  refine ⟨fun i hi => ?_, ?_⟩
  · rw [List.getElem?_append_left (by omega), List.getElem?_take]
    simp [hi]
  · rw [List.getElem?_append_right (by omega), lt, Nat.sub_self, h]
    simp
    exact fun z => hm z.symm
theorem bent_rev {X : List Int} {p : Nat} {m : Int} (hp : p < X.length) : (X.take p ++ ([m] ++ X.drop (p + 1))).reverse = X.reverse.take (X.length - 1 - p) ++ ([m] ++ X.reverse.drop (X.length - 1 - p + 1)) := by
  rw [List.reverse_append, List.reverse_append, List.take_reverse, List.drop_reverse]
  have e1 : X.length - (X.length - 1 - p) = p + 1 := by omega
  have e2 : X.length - (X.length - 1 - p + 1) = p := by omega
  rw [e1, e2, List.append_assoc]
  rfl
theorem ul_longer (X W : List Int) (h : W ≠ []) : Ul X (X ++ W) (some X.length) := by
  refine ⟨fun i hi => by rw [List.getElem?_append_left hi], ?_⟩
  rw [List.getElem?_eq_none (Nat.le_refl _), List.getElem?_append_right (Nat.le_refl _), Nat.sub_self]
  cases W with
  | nil => exact absurd rfl h
  | cons x r => simp
theorem ul_shorter (X : List Int) (p : Nat) (hp : p < X.length) : Ul (X.take p) X (some p) := by
  have h := ul_longer (X.take p) (X.drop p) (by intro z; have := congrArg List.length z; rw [List.length_drop] at this; simp at this; omega)
  rw [List.take_append_drop, List.length_take, Nat.min_eq_left (by omega)] at h
  exact h
theorem ahd_ne {X Y : List Int} {o : Option Nat} (h : X.length ≠ Y.length) : ahd X Y o = decide (X.length < Y.length) := by
  cases o with
  | none => rfl
  | some k => exact if_neg h
theorem getD_of {X : List Int} {p : Nat} {c : Int} (h : X[p]? = some c) : X.getD p 0 = c := by rw [List.getD_eq_getElem?_getD, h]; rfl
theorem like6 (X Y : List Int) (o : Option Nat) (h : ∀ k, o = some k → k < 10 ^ 60) : F__law_like [.lst (ask6 X Y o), .lst (ask6 X Y o)] g = .ok (.bl true) g := like_lst _ (ask6_cb X Y o h) (by unfold ask6; simp)
theorem like8 (X Y : List Int) (o o' : Option Nat) (h : ∀ k, o = some k → k < 10 ^ 60) (h' : ∀ k, o' = some k → k < 10 ^ 60) (hx : X.length < 10 ^ 60) (hy : Y.length < 10 ^ 60) : F__law_like [.lst (ask8 X Y o o'), .lst (ask8 X Y o o')] g = .ok (.bl true) g := like_lst _ (ask8_cb X Y o o' h h' hx hy) (by unfold ask8 ask6; simp)
end Wk
set_option Elab.async false
set_option linter.all false
set_option maxRecDepth 100000
set_option maxHeartbeats 4000000
namespace Wk
open PySem L2 Dl Rw
variable {g : G}
abbrev aliB : Ms := (sIf (tNotM (eTru (eCall 2 F__law_like (aCons (eCall 2 F__law_asked (aCons (eVar 5) (aCons (eVar 2) aNil))) (aCons (eLst (eList (aCons (eC .non) (aCons (eC .non) (aCons (eC (.bl true)) (aCons (eC (.bl true)) (aCons (eC (.bl false)) (aCons (eC (.bl false)) (aCons (eVar 3) (aCons (eVar 3) aNil)))))))))) aNil))))) (sRet (eC (.bl false))) sNil)
abbrev aliE (S0 : Sl) (r o one : D) (L : Int) : Dl.Env := [S0, .im .hdl, .im r, .im (.int L), .im o, .im one, .no, .no, .no, .no, .no, .no, .no, .no]
theorem ali_turn (S0 : Sl) (r q : Row) (o : D) (kr : Rk r) (kq : Rk q) (w : wd q = wd r) (hl : (wd r).length < 10 ^ 60) : aliB (aliE S0 (rowD r) o (rowD q) (wd r).length) g = .ok (.nx (aliE S0 (rowD r) o (rowD q) (wd r).length)) g := by
  have A := asked_ok (g := g) q r kq kr (o := none) (o' := none) (by rw [w]; exact rfl) (by rw [w]; exact rfl)
  have K := like8 (g := g) (wd r) (wd r) none none (fun k z => nomatch z) (fun k z => nomatch z) hl hl
  rw [w] at A
  have e : ask8 (wd r) (wd r) none none = [.non, .non, .bl true, .bl true, .bl false, .bl false, .int (wd r).length, .int (wd r).length] := by
    unfold ask8 ask6 ahd cend
    simp [ulD]
  rw [e] at A K
  simp [A, K]
theorem ali_loop (S0 : Sl) (r o t : Row) (kr : Rk r) (ko : Rk o) (kt : Rk t) (wo : wd o = wd r) (wt : wd t = wd r) (hl : (wd r).length < 10 ^ 60) :
    loopF (bOne (bName 5)) [5] aliB [.one (rowD r), .one (rowD o), .one (rowD t)] [S0, .im .hdl, .im (rowD r), .im (.int (wd r).length), .im (rowD o), .no, .no, .no, .no, .no, .no, .no, .no, .no] g
      = .ok (.nx [S0, .im .hdl, .im (rowD r), .im (.int (wd r).length), .im (rowD o), .no, .no, .no, .no, .no, .no, .no, .no, .no]) g := by
  rw [loop_step (ρ1 := aliE S0 (rowD r) (rowD o) (rowD r) (wd r).length) rfl, ali_turn S0 r r _ kr kr rfl hl, turn_nx]
  show loopF (bOne (bName 5)) [5] aliB [.one (rowD o), .one (rowD t)] [S0, .im .hdl, .im (rowD r), .im (.int (wd r).length), .im (rowD o), .no, .no, .no, .no, .no, .no, .no, .no, .no] g = _
  rw [loop_step (ρ1 := aliE S0 (rowD r) (rowD o) (rowD o) (wd r).length) rfl, ali_turn S0 r o _ kr ko wo hl, turn_nx]
  show loopF (bOne (bName 5)) [5] aliB [.one (rowD t)] [S0, .im .hdl, .im (rowD r), .im (.int (wd r).length), .im (rowD o), .no, .no, .no, .no, .no, .no, .no, .no, .no] g = _
  rw [loop_step (ρ1 := aliE S0 (rowD r) (rowD o) (rowD t) (wd r).length) rfl, ali_turn S0 r t _ kr kt wt hl, turn_nx]
  rfl
theorem law_holds (ns : List Int) (hl : ns.length ≤ 63) (_ : ∀ k ∈ ns, PySem.Builtin.Int.intBits k ≤ 1048576) : ∃ g, F_law [.scr ns] none = .ok (.bl true) g := by
  obtain ⟨g0, e0, hg0⟩ := F__law_begun_ok ns hl
  obtain ⟨v, g1, e1, v0, v1, hg1⟩ := F__law_draw_ok 0 4 hg0 (by omega) (by decide) (by decide)
  obtain ⟨r, g2, e2, hr, r1, r5, hg2⟩ := F__law_wide_row_ok (g := g1) 1 (1 + v) hg1 (by decide) (by omega) (by omega)
  have w1 := wd_pos hr.bk r1
  have hw : (wd r).length ≤ 10 ^ 33 := by
    have := wd_bound r hr.bk
    have h2 : r.length * (60 * 10 ^ 30) ≤ 5 * (60 * 10 ^ 30) := Nat.mul_le_mul_right _ (by omega)
    omega
  have e3 := F__law_size_row (g := g2) r hr.sm (by omega)
  obtain ⟨o, g3, e4, ko, lo, wo, hg3⟩ := rewritten_ok (g := g2) 1001 r hr.bk (by omega) hg2 (by omega)
  have hg3 := hg3.mono (show 1001 + 10 * r.length ≤ 1100 by omega)
  obtain ⟨t, g4, e5, kt, lt, wt, hg4⟩ := rewritten_ok (g := g3) 1100 o ko (by omega) hg3 (by omega)
  have hg4 := hg4.mono (show 1100 + 10 * o.length ≤ 1300 by omega)
  have K2 : Rk o := ⟨by omega, ko⟩
  have K3 : Rk t := ⟨by omega, kt⟩
  have st5 := ali_loop (g := g4) (.im (.scr ns)) r o t hr K2 K3 wo (wt.trans wo) (by omega)
  obtain ⟨p, g5, e6, pl, hg5⟩ := F__law_spot_row (g := g4) r 1300 hr hg4 (by omega) w1
  obtain ⟨c, hc⟩ : ∃ c, (wd r)[p]? = some c := ⟨_, List.getElem?_eq_getElem pl⟩
  have cb := wd_marks hr.bk c (List.mem_of_getElem? hc)
  have e7 := F__law_mark_row (g := g5) r p c hr.bk hc
  obtain ⟨u, g6, e8, u0, u1, hg6⟩ := F__law_draw_ok 1310 3 hg5 (by omega) (by decide) (by decide)
  obtain ⟨m, hm⟩ : ∃ m : Int, (c + 1 + u) % 4 = m := ⟨_, rfl⟩
  have mc : m ≠ c := by omega
  have m0 : 0 ≤ m := by omega
  have m3 : m ≤ 3 := by omega
  have md : modI (c + 1 + u) 4 = some m := by rw [modI_ok (by decide), hm]
  -- the bent row
  have s1 := split_len p (wd r).length r 0 (by omega)
  have s2 := split_len (p + 1) (wd r).length r 0 (by omega)
  have s1' : (if p ≤ 0 then 0 else 3) ≤ 3 := by split <;> omega
  have s2' : (if p + 1 ≤ 0 then 0 else 3) ≤ 3 := by split <;> omega
  obtain ⟨kB, wB⟩ := put_row r hr p (p + 1) m m0 m3 (by omega)
  have e9 := F__law_piece_row (g := g6) r 0 p hr (by omega)
  have e10 := F__law_piece_row (g := g6) r (p + 1) (wd r).length hr (by omega)
  have e11 := join_sum (g := g6) (pof 0 p r 0) [([m], 1)] (by omega) (by simp)
  have e12 := join_sum (g := g6) (pof 0 p r 0 ++ [([m], 1)]) (pof (p + 1) (wd r).length r 0) (by rw [List.length_append, List.length_singleton]; omega) (by omega)
  rw [List.append_assoc] at e12
  rw [show ((0 : Nat) : Int) = 0 from rfl] at e9
  rw [show ((p + 1 : Nat) : Int) = (p : Int) + 1 from rfl] at e10
  obtain ⟨B, hB⟩ : ∃ B, B = pof 0 p r 0 ++ ([([m], 1)] ++ pof (p + 1) (wd r).length r 0) := ⟨_, rfl⟩
  have Bl : B.length ≤ 17 := by
    rw [hB, List.length_append, List.length_append, List.length_singleton]
    omega
  rw [← hB] at kB wB e12
  obtain ⟨b2, g7, e13, kb, lb, wb, hg7⟩ := rewritten_ok (g := g6) 1311 B kB.bk (by omega) hg6 (by omega)
  have hg7 := hg7.mono (show 1311 + 10 * B.length ≤ 1500 by omega)
  have K4 : Rk b2 := ⟨by omega, kb⟩
  have uB := ul_bent hc mc
  rw [← wB] at uB
  have lB : (wd B).length = (wd r).length := by
    rw [wB]; exact bent_len hc
  have uR : Ul (wd r).reverse (wd B).reverse (some ((wd r).length - 1 - p)) := by
    rw [wB, bent_rev pl]
    refine ul_bent (c := c) ?_ mc
    rw [List.getElem?_reverse (by omega)]
    rw [show (wd r).length - 1 - ((wd r).length - 1 - p) = p by omega]
    exact hc
  have A1 := asked_ok (g := g7) o b2 K2 K4 (by rw [wo, wb]; exact uB) (by rw [wo, wb]; exact uR)
  rw [wo, wb] at A1
  have L1 := like8 (g := g7) (wd r) (wd B) (some p) (some ((wd r).length - 1 - p)) (fun k z => by cases z; omega) (fun k z => by cases z; omega) (by omega) (by omega)
  have gd1 := getD_of hc
  have gd2 : (wd B).getD p 0 = m := by
    refine getD_of ?_
    rw [wB, List.getElem?_append_right (by rw [List.length_take]; omega), List.length_take, show p - min p (wd r).length = 0 by omega]
    rfl
  have E1 : ask8 (wd r) (wd B) (some p) (some ((wd r).length - 1 - p)) = [.int p, .int p, .bl false, .bl false, .bl (decide (c < m)), .bl (decide (m < c)), .int ((wd r).length - 1 - p : Nat), .int ((wd r).length - 1 - p : Nat)] := by
    unfold ask8 ask6
    rw [ahd_eq lB.symm, ahd_eq lB, gd1, gd2]
    rfl
  rw [E1] at A1 L1
  have lp : (((wd r).length - 1 - p : Nat) : Int) = ((wd r).length : Int) - 1 - p := by omega
  rw [lp] at A1 L1
  -- a longer one
  obtain ⟨x, g8, e14, x0, x1, hg8⟩ := F__law_draw_ok 1500 4 hg7 (by omega) (by decide) (by decide)
  obtain ⟨y, g9, e15, y0, y1, hg9⟩ := F__law_draw_ok 1501 3 hg8 (by omega) (by decide) (by decide)
  have bx : Bk ([x], 1 + y) := ⟨by simp, by simp, fun z hz => by have : z = x := by simpa using hz
                                                                 omega, by show 1 ≤ 1 + y; omega, by show 1 + y ≤ 10 ^ 30; omega⟩
  have K5 : Rk (r ++ [([x], 1 + y)]) := ⟨by rw [List.length_append, List.length_singleton]; omega, bks_app hr.bk (bks_one bx)⟩
  have e16 := join_sum (g := g9) r [([x], 1 + y)] (by omega) (by simp)
  have uL := ul_longer (wd r) (wd [([x], 1 + y)]) (by
    intro z
    have := wd_pos (bks_one bx) (by simp)
    rw [z] at this; simp at this)
  rw [← wd_append] at uL
  obtain ⟨A2L, A2, A2s⟩ := asked6_ok (g := g9) r _ hr K5 uL
  have L2 := like6 (g := g9) (wd r) (wd (r ++ [([x], 1 + y)])) (some (wd r).length) (fun k z => by cases z; omega)
  have len5 : (wd r).length < (wd (r ++ [([x], 1 + y)])).length := by
    have := wd_pos (bks_one bx) (by simp)
    rw [wd_append, List.length_append]
    omega
  have E2 : ask6 (wd r) (wd (r ++ [([x], 1 + y)])) (some (wd r).length) = [.int (wd r).length, .int (wd r).length, .bl false, .bl false, .bl true, .bl false] := by
    unfold ask6
    rw [ahd_ne (by omega), ahd_ne (by omega), decide_eq_true len5, decide_eq_false (by omega)]
    rfl
  rw [E2] at A2s L2
  -- a shorter one
  have hpo := pof_len 0 p o 0
  have K6 : Rk (pof 0 p o 0) := ⟨by omega, pof_bk _ _ o 0 ko⟩
  have w6 : wd (pof 0 p o 0) = (wd r).take p := by
    rw [pof_wd 0 p o 0 (fun x hx => (ko x hx).one), wo]
    rfl
  have e17 := F__law_piece_row (g := g9) o 0 p K2 (by omega)
  rw [show ((0 : Nat) : Int) = 0 from rfl] at e17
  have uS := ul_shorter (wd r) p pl
  rw [← w6] at uS
  obtain ⟨A3L, A3, A3s⟩ := asked6_ok (g := g9) _ r K6 hr uS
  have L3 := like6 (g := g9) (wd (pof 0 p o 0)) (wd r) (some p) (fun k z => by cases z; omega)
  have len6 : (wd (pof 0 p o 0)).length < (wd r).length := by rw [w6, List.length_take]; omega
  have E3 : ask6 (wd (pof 0 p o 0)) (wd r) (some p) = [.int p, .int p, .bl false, .bl false, .bl true, .bl false] := by
    unfold ask6
    rw [ahd_ne (by omega), ahd_ne (by omega), decide_eq_true len6, decide_eq_false (by omega)]
    rfl
  rw [E3] at A3s L3
  -- short rows
  obtain ⟨a, g10, e18, ka, la, hg10⟩ := rowM_ok 2 (by decide) (by decide) 1502 hg9 (by omega)
  obtain ⟨b, g11, e19, kb2, lb2, hg11⟩ := rowM_ok 2 (by decide) (by decide) 2502 hg10 (by omega)
  obtain ⟨q, hq⟩ := ulx (wd a) (wd b)
  obtain ⟨q', hq'⟩ := ulx (wd a).reverse (wd b).reverse
  have e20 := F__law_flat_row (g := g11) a (fun x hx => (ka.bk x hx).ft) (by omega)
  have e21 := F__law_flat_row (g := g11) b (fun x hx => (kb2.bk x hx).ft) (by omega)
  have A4 := asked_ok (g := g11) a b ka kb2 hq hq'
  have D4 := due_ok (g := g11) (wd a) (wd b) (by omega) (by omega) hq hq'
  have ulen : ∀ {X Y : List Int} {k : Nat}, Ul X Y (some k) → k < X.length ∨ k < Y.length := fun {X Y k} h => by
    rcases Nat.lt_or_ge k X.length with z | z
    · exact .inl z
    · rcases Nat.lt_or_ge k Y.length with z2 | z2
      · exact .inr z2
      · exact absurd (by rw [List.getElem?_eq_none z, List.getElem?_eq_none z2]) h.2
  have L4 := like8 (g := g11) (wd a) (wd b) q q' (fun k z => by subst z; have := ulen hq; omega) (fun k z => by subst z; have := ulen hq'; simp only [List.length_reverse] at this; omega) (by omega) (by omega)
  -- nothing
  have uN : Ul (wd []) (wd r) (some 0) := Ul.zero (by
    obtain ⟨e, he⟩ : ∃ e, (wd r)[0]? = some e := ⟨_, List.getElem?_eq_getElem (by omega)⟩
    rw [wd_nil, he]
    simp)
  obtain ⟨A5L, A5, A5s⟩ := asked6_ok (g := g11) [] r rk_nil hr uN
  have L5 := like6 (g := g11) (wd []) (wd r) (some 0) (fun k z => by cases z; decide)
  have E5 : ask6 (wd []) (wd r) (some 0) = [.int 0, .int 0, .bl false, .bl false, .bl true, .bl false] := by
    unfold ask6
    have z0 : (wd []).length = 0 := rfl
    rw [ahd_ne (by omega), ahd_ne (by omega), decide_eq_true (by omega), decide_eq_false (by omega)]
    rfl
  rw [E5] at A5s L5
  obtain ⟨g12, e22, _⟩ := parts_late_ok (g := g11) 3502 hg11 (by omega)
  refine ⟨g12, ?_⟩
  have T1 : D.tup [.tup [.tup [.int m], .int 1]] = rowD [([m], 1)] := rfl
  have T2 : D.tup [.tup [.tup [.int x], .int (1 + y)]] = rowD [([x], 1 + y)] := rfl
  have T3 : D.tup [] = rowD [] := rfl
  rw [show rowD [] = D.tup [] from rfl] at A5
  simp only [intsD] at D4
  generalize hX : ((wd r).length : Int) = X at *
  have fst : F_law [.scr ns] none = fin (m_law [.im (.scr ns), .no, .no, .no, .no, .no, .no, .no, .no, .no, .no, .no, .no, .no] none) := rfl
  rw [fst]
  unfold m_law
  refine fin_seq (g' := g0) (ρ' := [.im (.scr ns), .im .hdl, .no, .no, .no, .no, .no, .no, .no, .no, .no, .no, .no, .no]) (by simp [e0]) ?_
  refine fin_seq (g' := g2) (ρ' := [.im (.scr ns), .im .hdl, .im (rowD r), .no, .no, .no, .no, .no, .no, .no, .no, .no, .no, .no]) (by simp [e1, e2]) ?_
  refine fin_seq (g' := g2) (ρ' := [.im (.scr ns), .im .hdl, .im (rowD r), .im (.int X), .no, .no, .no, .no, .no, .no, .no, .no, .no, .no]) (by simp [e3]) ?_
  refine fin_seq (g' := g3) (ρ' := [.im (.scr ns), .im .hdl, .im (rowD r), .im (.int X), .im (rowD o), .no, .no, .no, .no, .no, .no, .no, .no, .no]) (by simp [e4]) ?_
  refine fin_seq (g' := g4) (ρ' := [.im (.scr ns), .im .hdl, .im (rowD r), .im (.int X), .im (rowD o), .no, .no, .no, .no, .no, .no, .no, .no, .no]) (by
    have q : ∀ B : Ms, loopF (bOne (bName 5)) [5] B [.one (rowD r), .one (rowD o), .one (rowD t)] [.im (.scr ns), .im .hdl, .im (rowD r), .im (.int X), .im (rowD o), .no, .no, .no, .no, .no, .no, .no, .no, .no] g4 = .ok (.nx [.im (.scr ns), .im .hdl, .im (rowD r), .im (.int X), .im (rowD o), .no, .no, .no, .no, .no, .no, .no, .no, .no]) g4 →
        (sFor (yVal (eTup (aCons (eVar 2) (aCons (eVar 4) (aCons (eCall 2 F__law_rewritten (aCons (eVar 1) (aCons (eVar 4) aNil))) aNil))))) (bOne (bName 5)) [5] B) [.im (.scr ns), .im .hdl, .im (rowD r), .im (.int X), .im (rowD o), .no, .no, .no, .no, .no, .no, .no, .no, .no] g3 = .ok (.nx [.im (.scr ns), .im .hdl, .im (rowD r), .im (.int X), .im (rowD o), .no, .no, .no, .no, .no, .no, .no, .no, .no]) g4 := fun B h => by
      simp [e5, h]
    exact q _ st5) ?_
  refine fin_seq (g' := g5) (ρ' := [.im (.scr ns), .im .hdl, .im (rowD r), .im (.int X), .im (rowD o), .no, .im (.int p), .no, .no, .no, .no, .no, .no, .no]) (by simp [e6]) ?_
  refine fin_seq (g' := g5) (ρ' := [.im (.scr ns), .im .hdl, .im (rowD r), .im (.int X), .im (rowD o), .no, .im (.int p), .im (.int c), .no, .no, .no, .no, .no, .no]) (by simp [e7]) ?_
  refine fin_seq (g' := g6) (ρ' := [.im (.scr ns), .im .hdl, .im (rowD r), .im (.int X), .im (rowD o), .no, .im (.int p), .im (.int c), .im (.int m), .no, .no, .no, .no, .no]) (by simp [e8, md]) ?_
  refine fin_seq (g' := g6) (ρ' := [.im (.scr ns), .im .hdl, .im (rowD r), .im (.int X), .im (rowD o), .no, .im (.int p), .im (.int c), .im (.int m), .im (rowD B), .no, .no, .no, .no]) (by simp [e9, e10, T1, e11, e12]) ?_
  refine fin_seq (g' := g6) (ρ' := [.im (.scr ns), .im .hdl, .im (rowD r), .im (.int X), .im (rowD o), .no, .im (.int p), .im (.int c), .im (.int m), .im (rowD B), .im (.lst [.int p, .int p, .bl false, .bl false, .bl (decide (c < m)), .bl (decide (m < c)), .int (X - 1 - p), .int (X - 1 - p)]), .no, .no, .no]) (by simp) ?_
  generalize D.lst [.int p, .int p, .bl false, .bl false, .bl (decide (c < m)), .bl (decide (m < c)), .int (X - 1 - p), .int (X - 1 - p)] = DUE at *
  refine fin_seq (g' := g7) (ρ' := [.im (.scr ns), .im .hdl, .im (rowD r), .im (.int X), .im (rowD o), .no, .im (.int p), .im (.int c), .im (.int m), .im (rowD B), .im DUE, .no, .no, .no]) (by simp [e13, A1, L1]) ?_
  refine fin_seq (g' := g9) (ρ' := [.im (.scr ns), .im .hdl, .im (rowD r), .im (.int X), .im (rowD o), .no, .im (.int p), .im (.int c), .im (.int m), .im (rowD B), .im DUE, .im (rowD (r ++ [([x], 1 + y)])), .no, .no]) (by simp [e14, e15, T2, e16]) ?_
  generalize rowD (r ++ [([x], 1 + y)]) = LG at *
  refine fin_seq (g' := g9) (ρ' := [.im (.scr ns), .im .hdl, .im (rowD r), .im (.int X), .im (rowD o), .no, .im (.int p), .im (.int c), .im (.int m), .im (rowD B), .im DUE, .im LG, .no, .no]) (by simp [A2, A2s, L2]) ?_
  refine fin_seq (g' := g9) (ρ' := [.im (.scr ns), .im .hdl, .im (rowD r), .im (.int X), .im (rowD o), .no, .im (.int p), .im (.int c), .im (.int m), .im (rowD B), .im DUE, .im LG, .im (rowD (pof 0 p o 0)), .no]) (by simp [e17]) ?_
  generalize rowD (pof 0 p o 0) = LS at *
  refine fin_seq (g' := g9) (ρ' := [.im (.scr ns), .im .hdl, .im (rowD r), .im (.int X), .im (rowD o), .no, .im (.int p), .im (.int c), .im (.int m), .im (rowD B), .im DUE, .im LG, .im LS, .no]) (by simp [A3, A3s, L3]) ?_
  refine fin_seq (g' := g11) (ρ' := [.im (.scr ns), .im .hdl, .im (rowD r), .im (.int X), .im (rowD o), .im (rowD a), .im (.int p), .im (.int c), .im (.int m), .im (rowD B), .im DUE, .im LG, .im LS, .im (rowD b)]) (by simp [e18, e19]) ?_
  refine fin_seq (g' := g11) (ρ' := [.im (.scr ns), .im .hdl, .im (rowD r), .im (.int X), .im (rowD o), .im (rowD a), .im (.int p), .im (.int c), .im (.int m), .im (rowD B), .im DUE, .im LG, .im LS, .im (rowD b)]) (by simp [e20, e21, A4, D4, L4]) ?_
  simp [A5, A5s, L5, e22]
end Wk
set_option Elab.async false
set_option linter.all false
set_option maxRecDepth 100000
set_option maxHeartbeats 1000000
namespace Wk
open PySem PySem.Spec PyProof.Rows L2 Dl NdefX
def topS (i : Nat) : Stmt := PySem.Challenge.pw_pointingreads_k04_whole_rows_read_alike.main.body.getD i (.Pass ⟨0, 0, 0, 0⟩)
abbrev s__law_folded : Stmt := topS 27
abbrev s__law_begun : Stmt := topS 29
abbrev s__law_mixed : Stmt := topS 26
abbrev s__law_draw : Stmt := topS 28
abbrev s__law_tens : Stmt := topS 35
abbrev s__law_times : Stmt := topS 36
abbrev s__law_wide_row : Stmt := topS 37
abbrev s__law_size : Stmt := topS 38
abbrev s__law_below : Stmt := topS 41
abbrev s__law_rewritten : Stmt := topS 44
abbrev s__law_of : Stmt := topS 31
abbrev s__law_borders : Stmt := topS 42
abbrev s__law_spot : Stmt := topS 43
abbrev s__law_mark : Stmt := topS 39
abbrev s__law_piece : Stmt := topS 40
abbrev s__law_like : Stmt := topS 30
abbrev s__law_marks : Stmt := topS 33
abbrev s__law_row : Stmt := topS 34
abbrev s__law_two_periods : Stmt := topS 48
abbrev s__law_end : Stmt := topS 49
abbrev s_is_whole : Stmt := topS 4
abbrev s_is_within : Stmt := topS 5
abbrev s_is_tuple_of : Stmt := topS 6
abbrev s_is_block : Stmt := topS 12
abbrev s_need_row : Stmt := topS 13
abbrev s_parting_within : Stmt := topS 19
abbrev s_unlike_place : Stmt := topS 20
abbrev s_first_unlike : Stmt := topS 21
abbrev s_read_alike : Stmt := topS 22
abbrev s_entries_of : Stmt := topS 14
abbrev s_mark_there : Stmt := topS 15
abbrev s_is_ahead : Stmt := topS 23
abbrev s_blocks_turned : Stmt := topS 17
abbrev s_common_end : Stmt := topS 24
abbrev s__law_asked : Stmt := topS 45
abbrev s__law_parts_late : Stmt := topS 50
abbrev s__law_part_place : Stmt := topS 46
abbrev s__law_due : Stmt := topS 47
abbrev s__law_flat : Stmt := topS 32
abbrev s_law : Stmt := topS 51
structure Fx (P : Program) (w : World) (k : Kt) : Prop where
  f__law_folded : FnAt k "_law_folded" s__law_folded ["_law_script"]
  f__law_begun : FnAt k "_law_begun" s__law_begun ["_law_script"]
  f__law_mixed : FnAt k "_law_mixed" s__law_mixed ["_law_cell", "_law_n"]
  f__law_draw : FnAt k "_law_draw" s__law_draw ["_law_m", "_law_limit"]
  f__law_tens : FnAt k "_law_tens" s__law_tens ["_law_times_here"]
  f__law_times : FnAt k "_law_times" s__law_times ["_law_m"]
  f__law_wide_row : FnAt k "_law_wide_row" s__law_wide_row ["_law_m", "_law_many", "_law_most"]
  f__law_size : FnAt k "_law_size" s__law_size ["_law_row_here"]
  f__law_below : FnAt k "_law_below" s__law_below ["_law_m", "_law_limit"]
  f__law_rewritten : FnAt k "_law_rewritten" s__law_rewritten ["_law_m", "_law_row_here"]
  f__law_of : FnAt k "_law_of" s__law_of ["_law_m", "_law_some"]
  f__law_borders : FnAt k "_law_borders" s__law_borders ["_law_row_here"]
  f__law_spot : FnAt k "_law_spot" s__law_spot ["_law_m", "_law_row_here"]
  f__law_mark : FnAt k "_law_mark" s__law_mark ["_law_row_here", "_law_place"]
  f__law_piece : FnAt k "_law_piece" s__law_piece ["_law_row_here", "_law_begin", "_law_end_here"]
  f__law_like : FnAt k "_law_like" s__law_like ["_law_got", "_law_due_here"]
  f__law_marks : FnAt k "_law_marks" s__law_marks ["_law_m", "_law_many", "_law_most"]
  f__law_row : FnAt k "_law_row" s__law_row ["_law_m", "_law_many"]
  f__law_two_periods : FnAt k "_law_two_periods" s__law_two_periods ["_law_first", "_law_second"]
  f__law_end : FnAt k "_law_end" s__law_end ["_law_one", "_law_two"]
  f_is_whole : FnAt k "is_whole" s_is_whole ["value"]
  f_is_within : FnAt k "is_within" s_is_within ["value", "low", "high"]
  f_is_tuple_of : FnAt k "is_tuple_of" s_is_tuple_of ["value", "many"]
  f_is_block : FnAt k "is_block" s_is_block ["value"]
  f_need_row : FnAt k "need_row" s_need_row ["row"]
  f_parting_within : FnAt k "parting_within" s_parting_within ["marks", "begin", "more", "other_begin", "many"]
  f_unlike_place : FnAt k "unlike_place" s_unlike_place ["blocks", "others"]
  f_first_unlike : FnAt k "first_unlike" s_first_unlike ["row", "other_row"]
  f_read_alike : FnAt k "read_alike" s_read_alike ["row", "other_row"]
  f_entries_of : FnAt k "entries_of" s_entries_of ["blocks"]
  f_mark_there : FnAt k "mark_there" s_mark_there ["row", "place"]
  f_is_ahead : FnAt k "is_ahead" s_is_ahead ["row", "other_row"]
  f_blocks_turned : FnAt k "blocks_turned" s_blocks_turned ["blocks"]
  f_common_end : FnAt k "common_end" s_common_end ["row", "other_row"]
  f__law_asked : FnAt k "_law_asked" s__law_asked ["_law_one", "_law_two"]
  f__law_parts_late : FnAt k "_law_parts_late" s__law_parts_late ["_law_m"]
  f__law_part_place : FnAt k "_law_part_place" s__law_part_place ["_law_one", "_law_two"]
  f__law_due : FnAt k "_law_due" s__law_due ["_law_one", "_law_two"]
  f__law_flat : FnAt k "_law_flat" s__law_flat ["_law_row_here"]
  f_law : FnAt k "law" s_law ["_law_script"]
  b_all : k.mg "all" = none
  b_bool : k.mg "bool" = none
  b_enumerate : k.mg "enumerate" = none
  b_int : k.mg "int" = none
  b_isinstance : k.mg "isinstance" = none
  b_len : k.mg "len" = none
  b_list : k.mg "list" = none
  b_max : k.mg "max" = none
  b_min : k.mg "min" = none
  b_range : k.mg "range" = none
  b_repr : k.mg "repr" = none
  b_sum : k.mg "sum" = none
  b_tuple : k.mg "tuple" = none
  c_MOST_BLOCKS : ∃ t, k.mg "MOST_BLOCKS" = some (.int 60 t)
  c_MOST_MARK : ∃ t, k.mg "MOST_MARK" = some (.int 3 t)
  c_MOST_OF_BLOCK : ∃ t, k.mg "MOST_OF_BLOCK" = some (.int 60 t)
  c_MOST_TIMES : ∃ t, k.mg "MOST_TIMES" = some (.int 1000000000000000000000000000000 t)
section
variable {P : Program} {w : World} {k : Kt} {base : Heap}
theorem sc__law_folded : FnScope ["_law_script", "_law_found", "_law_n", "_law_cell"] ["_law_script"] (defScope s__law_folded) := ⟨rfl, rfl, rfl, by decide +kernel, rfl, by decide +kernel, by decide +kernel⟩
theorem ok__law_folded (B : Fx P w k) : DFn P w k base 1 "_law_folded" 1 F__law_folded := by
  obtain ⟨f, fd, F, hm, hb⟩ := B.f__law_folded.ex
  exact dfn_of F sc__law_folded hm hb fun W => (dss_cons (ds_ownC 1 [("_law_n", 2)] (di_range1 B.b_range (dab_cons (DE.b de_int) dab_nil)) (dy_one (dg_name 2)) dts_nil (de_add (DE.b de_int) (DE.b (de_var 2)))) (dss_cons (ds_for [2, 3] (di_enum B.b_enumerate (da_cons (de_var 0) da_nil)) (dy_many (dgs_cons (dg_name 2) (dgs_cons (dg_name 3) dgs_nil))) (dss_one (ds_put 1 (DE.b (de_mod (DE.b (dx_callT (lft_D _) bi_int bt_int B.b_int (dab_cons (DE.b (de_var 2)) dab_nil))) (DE.b de_int))) (de_mod (DE.b (dx_callT (lft_D _) bi_int bt_int B.b_int (dab_cons (DE.b (de_add (DE.b (de_mul (DE.b (de_ix (db_var 1) (DE.b (de_mod (DE.b (dx_callT (lft_D _) bi_int bt_int B.b_int (dab_cons (DE.b (de_var 2)) dab_nil))) (DE.b de_int))))) (DE.b de_int))) (DE.b (de_var 3)))) dab_nil))) (DE.b de_int))))) (dss_cons (ds_for [2] (di_range2 B.b_range (dab_cons (DE.b de_int) (dab_cons (DE.b de_int) dab_nil))) (dy_one (dg_name 2)) (dss_one (ds_put 1 (DE.b (de_var 2)) (de_mod (DE.b (dx_callT (lft_D _) bi_int bt_int B.b_int (dab_cons (DE.b (de_add (DE.b (de_ix (db_var 1) (DE.b (de_var 2)))) (DE.b (de_mul (DE.b (de_ix (db_var 1) (DE.b (de_sub (DE.b (de_var 2)) (DE.b de_int))))) (DE.b de_int))))) dab_nil))) (DE.b de_int))))) (dss_one (ds_frzM 1 (ds_ret (de_var 1)))))))
theorem sc__law_begun : FnScope ["_law_script", "_law_m", "_law_cell"] ["_law_script"] (defScope s__law_begun) := ⟨rfl, rfl, rfl, by decide +kernel, rfl, by decide +kernel, by decide +kernel⟩
theorem ok__law_begun (B : Fx P w k) : DFn P w k base 2 "_law_begun" 1 F__law_begun := by
  obtain ⟨f, fd, F, hm, hb⟩ := B.f__law_begun.ex
  exact dfn_of F sc__law_begun hm hb fun W => (dss_begin 1 (de_call (ok__law_folded B) (da_cons (de_var 0) da_nil)) (df_comp [("_law_cell", 2)] (dig_val (DE.b (de_var 0))) (dy_one (dg_name 2)) dts_nil (de_if (Cmp.t c_ge (DE.b (de_var 2)) (DE.b (de_pow (DE.b de_int) (DE.b de_int)))) (de_var 2) de_int)) (dss_one (ds_ret (de_var 1))))
theorem sc__law_mixed : FnScope ["_law_cell", "_law_n", "_law_blend"] ["_law_cell", "_law_n"] (defScope s__law_mixed) := ⟨rfl, rfl, rfl, by decide +kernel, rfl, by decide +kernel, by decide +kernel⟩
theorem ok__law_mixed (B : Fx P w k) : DFn P w k base 1 "_law_mixed" 2 F__law_mixed := by
  obtain ⟨f, fd, F, hm, hb⟩ := B.f__law_mixed.ex
  exact dfn_of F sc__law_mixed hm hb fun W => (dss_cons (ds_set 2 (de_add (DE.b (de_add (DE.b (de_mod (DE.b (dx_callT (lft_D _) bi_int bt_int B.b_int (dab_cons (DE.b (de_mul (DE.b (de_mul (DE.b (de_var 0)) (DE.b (de_add (DE.b de_int) (DE.b (de_mul (DE.b de_int) (DE.b (de_var 1)))))))) (DE.b de_int))) dab_nil))) (DE.b de_int))) (DE.b (de_mul (DE.b (de_mul (DE.b de_int) (DE.b (de_var 1)))) (DE.b (de_var 1)))))) (DE.b (de_mul (DE.b de_int) (DE.b (de_var 1)))))) (dss_one (ds_ret (de_div (DE.b (de_mod (DE.b (dx_callT (lft_D _) bi_int bt_int B.b_int (dab_cons (DE.b (de_mul (DE.b (de_var 2)) (DE.b de_int))) dab_nil))) (DE.b de_int))) (DE.b de_int)))))
theorem sc__law_draw : FnScope ["_law_m", "_law_limit", "_law_n", "_law_lot", "_law_here", "_law_cell"] ["_law_m", "_law_limit"] (defScope s__law_draw) := ⟨rfl, rfl, rfl, by decide +kernel, rfl, by decide +kernel, by decide +kernel⟩
theorem ok__law_draw (B : Fx P w k) : DFn P w k base 2 "_law_draw" 2 F__law_draw := by
  obtain ⟨f, fd, F, hm, hb⟩ := B.f__law_draw.ex
  exact dfn_of F sc__law_draw hm hb fun W => (dss_cons (ds_set 2 (de_spot 0)) (dss_cons (ds_spot 0 (de_add (DE.b (de_var 2)) (DE.b de_int))) (dss_cons (ds_if (dt_great 0) (dss_cons (ds_alias 0 3 true) (dss_cons (ds_set 4 (de_mod (DE.b (dx_callT (lft_D _) bi_int bt_int B.b_int (dab_cons (DE.b (de_var 2)) dab_nil))) (DE.b (de_lenA 3 B.b_len)))) (dss_cons (ds_set 5 (de_ixA 3 (DE.b (de_var 4)))) (dss_one (ds_if (Cmp.t c_gt (DE.b (de_var 5)) (DE.b de_int)) (dss_cons (ds_putA 3 (DE.b (de_var 4)) (de_div (DE.b (de_var 5)) (DE.b (de_var 1)))) (dss_one (ds_ret (de_mod (DE.b (dx_callT (lft_D _) bi_int bt_int B.b_int (dab_cons (DE.b (de_var 5)) dab_nil))) (DE.b (de_var 1)))))) dss_nil))))) dss_nil) (dss_cons (ds_alias 0 3 false) (dss_one (ds_ret (de_mod (DE.b (dx_callT (lft_D _) bi_int bt_int B.b_int (dab_cons (DE.b (de_call (ok__law_mixed B) (da_cons (de_call (ok__law_mixed B) (da_cons (de_add (DE.b (de_ixA 3 (DE.b (de_mod (DE.b (dx_callT (lft_D _) bi_int bt_int B.b_int (dab_cons (DE.b (de_var 2)) dab_nil))) (DE.b de_int))))) (DE.b (de_mul (DE.b de_int) (DE.b (de_div (DE.b (de_var 2)) (DE.b de_int)))))) (da_cons (de_var 2) da_nil))) (da_cons (de_add (DE.b (de_var 2)) (DE.b de_int)) da_nil)))) dab_nil))) (DE.b (de_var 1)))))))))
theorem sc__law_tens : FnScope ["_law_times_here", "_law_found", "_law_turn"] ["_law_times_here"] (defScope s__law_tens) := ⟨rfl, rfl, rfl, by decide +kernel, rfl, by decide +kernel, by decide +kernel⟩
theorem ok__law_tens (B : Fx P w k) : DFn P w k base 1 "_law_tens" 1 F__law_tens := by
  obtain ⟨f, fd, F, hm, hb⟩ := B.f__law_tens.ex
  exact dfn_of F sc__law_tens hm hb fun W => (dss_cons (ds_set 1 de_int) (dss_cons (ds_for [2] (di_range1 B.b_range (dab_cons (DE.b (de_var 0)) dab_nil)) (dy_one (dg_name 2)) (dss_one (ds_set 1 (de_mul (DE.b (de_var 1)) (DE.b de_int))))) (dss_one (ds_ret (de_var 1)))))
theorem sc__law_times : FnScope ["_law_m", "_law_found", "_law_turn"] ["_law_m"] (defScope s__law_times) := ⟨rfl, rfl, rfl, by decide +kernel, rfl, by decide +kernel, by decide +kernel⟩
theorem ok__law_times (B : Fx P w k) : DFn P w k base 3 "_law_times" 1 F__law_times := by
  obtain ⟨f, fd, F, hm, hb⟩ := B.f__law_times.ex
  exact dfn_of F sc__law_times hm hb fun W => (dss_cons (ds_if (Cmp.t c_eq (DE.b (de_call (ok__law_draw B) (da_cons (de_var 0) (da_cons de_int da_nil)))) (DE.b de_int)) (dss_one (ds_ret (de_add (DE.b de_int) (DE.b (de_call (ok__law_draw B) (da_cons (de_var 0) (da_cons de_int da_nil))))))) dss_nil) (dss_cons (ds_set 1 de_int) (dss_cons (ds_for [2] (di_range1 B.b_range (dab_cons (DE.b de_int) dab_nil)) (dy_one (dg_name 2)) (dss_one (ds_set 1 (de_add (DE.b (de_mul (DE.b (de_var 1)) (DE.b de_int))) (DE.b (de_call (ok__law_draw B) (da_cons (de_var 0) (da_cons de_int da_nil)))))))) (dss_one (ds_ret (de_add (DE.b de_int) (DE.b (de_mod (DE.b (dx_callT (lft_D _) bi_int bt_int B.b_int (dab_cons (DE.b (de_var 1)) dab_nil))) (DE.b (de_call (ok__law_tens B) (da_cons (de_add (DE.b de_int) (DE.b (de_call (ok__law_draw B) (da_cons (de_var 0) (da_cons de_int da_nil))))) da_nil)))))))))))
theorem sc__law_wide_row : FnScope ["_law_m", "_law_many", "_law_most", "_law_found", "_law_turn", "_law_size_here", "_law_spot_here"] ["_law_m", "_law_many", "_law_most"] (defScope s__law_wide_row) := ⟨rfl, rfl, rfl, by decide +kernel, rfl, by decide +kernel, by decide +kernel⟩
theorem ok__law_wide_row (B : Fx P w k) : DFn P w k base 4 "_law_wide_row" 3 F__law_wide_row := by
  obtain ⟨f, fd, F, hm, hb⟩ := B.f__law_wide_row.ex
  exact dfn_of F sc__law_wide_row hm hb fun W => (dss_cons (ds_own 3 (df_lst da_nil)) (dss_cons (ds_for [4, 5] (di_range1 B.b_range (dab_cons (DE.b (de_add (DE.b de_int) (DE.b (de_call (ok__law_draw B) (da_cons (de_var 0) (da_cons (de_var 2) da_nil)))))) dab_nil)) (dy_one (dg_name 4)) (dss_cons (ds_set 5 (de_add (DE.b de_int) (DE.b (de_call (ok__law_draw B) (da_cons (de_var 0) (da_cons (de_if (Cmp.t c_eq (DE.b (de_call (ok__law_draw B) (da_cons (de_var 0) (da_cons de_int da_nil)))) (DE.b de_int)) de_int de_int) da_nil)))))) (dss_one (ds_app 3 (de_tup (da_cons (dx_callT (lft_D _) bi_tuple bt_tuple B.b_tuple (dab_cons (DF.b (df_comp [("_law_spot_here", 6)] (di_range1 B.b_range (dab_cons (DE.b (de_var 5)) dab_nil)) (dy_one (dg_name 6)) dts_nil (de_call (ok__law_draw B) (da_cons (de_var 0) (da_cons (de_var 1) da_nil))))) dab_nil)) (da_cons (de_call (ok__law_times B) (da_cons (de_var 0) da_nil)) da_nil))))))) (dss_one (ds_ret (dx_callT (lft_D _) bi_tuple bt_tuple B.b_tuple (dab_cons (db_var 3) dab_nil))))))
theorem sc__law_size : FnScope ["_law_row_here", "_law_marks_here", "_law_times_here"] ["_law_row_here"] (defScope s__law_size) := ⟨rfl, rfl, rfl, by decide +kernel, rfl, by decide +kernel, by decide +kernel⟩
theorem ok__law_size (B : Fx P w k) : DFn P w k base 1 "_law_size" 1 F__law_size := by
  obtain ⟨f, fd, F, hm, hb⟩ := B.f__law_size.ex
  exact dfn_of F sc__law_size hm hb fun W => (dss_one (ds_ret (dx_callB (lft_D _) bi_sum bt_sum B.b_sum (dab_cons (DF.b (df_comp [("_law_marks_here", 1), ("_law_times_here", 2)] (dig_val (DE.b (de_var 0))) (dy_one (dg_tup (dgs_cons (dg_name 1) (dgs_cons (dg_name 2) dgs_nil)))) dts_nil (de_mul (DE.b (dx_callB (lft_D _) bi_len bt_len B.b_len (dab_cons (DE.b (de_var 1)) dab_nil))) (DE.b (de_var 2))))) dab_nil))))
theorem sc__law_below : FnScope ["_law_m", "_law_limit", "_law_found", "_law_turn"] ["_law_m", "_law_limit"] (defScope s__law_below) := ⟨rfl, rfl, rfl, by decide +kernel, rfl, by decide +kernel, by decide +kernel⟩
theorem ok__law_below (B : Fx P w k) : DFn P w k base 3 "_law_below" 2 F__law_below := by
  obtain ⟨f, fd, F, hm, hb⟩ := B.f__law_below.ex
  exact dfn_of F sc__law_below hm hb fun W => (dss_cons (ds_set 2 de_int) (dss_cons (ds_for [3] (di_range1 B.b_range (dab_cons (DE.b de_int) dab_nil)) (dy_one (dg_name 3)) (dss_one (ds_set 2 (de_add (DE.b (de_mul (DE.b (de_var 2)) (DE.b de_int))) (DE.b (de_call (ok__law_draw B) (da_cons (de_var 0) (da_cons de_int da_nil)))))))) (dss_one (ds_ret (de_mod (DE.b (dx_callT (lft_D _) bi_int bt_int B.b_int (dab_cons (DE.b (de_var 2)) dab_nil))) (DE.b (de_var 1)))))))
theorem sc__law_rewritten : FnScope ["_law_m", "_law_row_here", "_law_found", "_law_marks_here", "_law_times_here", "_law_kind", "_law_size_here", "_law_first", "_law_spot_here"] ["_law_m", "_law_row_here"] (defScope s__law_rewritten) := ⟨rfl, rfl, rfl, by decide +kernel, rfl, by decide +kernel, by decide +kernel⟩
theorem ok__law_rewritten (B : Fx P w k) : DFn P w k base 4 "_law_rewritten" 2 F__law_rewritten := by
  obtain ⟨f, fd, F, hm, hb⟩ := B.f__law_rewritten.ex
  exact dfn_of F sc__law_rewritten hm hb fun W => (dss_cons (ds_own 2 (df_lst da_nil)) (dss_cons (ds_for [3, 4, 5, 6, 7, 8] (di_val (de_var 1)) (dy_one (dg_tup (dgs_cons (dg_name 3) (dgs_cons (dg_name 4) dgs_nil)))) (dss_cons (ds_par 5 6 (das_im (de_call (ok__law_draw B) (da_cons (de_var 0) (da_cons de_int da_nil))) (das_im (dx_callB (lft_D _) bi_len bt_len B.b_len (dab_cons (DE.b (de_var 3)) dab_nil)) das_nil))) (dss_one (ds_if (DW.t (dw_and (Cmp.t c_eq (DE.b (de_var 5)) (DE.b de_int)) (dw_and1 (Cmp.t c_gt (DE.b (de_var 4)) (DE.b de_int))))) (dss_cons (ds_set 7 (de_add (DE.b de_int) (DE.b (de_call (ok__law_below B) (da_cons (de_var 0) (da_cons (de_sub (DE.b (de_var 4)) (DE.b de_int)) da_nil)))))) (dss_one (ds_own 2 (df_add (db_var 2) (DF.b (df_lst (da_cons (de_tup (da_cons (de_var 3) (da_cons (de_var 7) da_nil))) (da_cons (de_tup (da_cons (de_var 3) (da_cons (de_sub (DE.b (de_var 4)) (DE.b (de_var 7))) da_nil))) da_nil)))))))) (dss_one (ds_if (DW.t (dw_and (Cmp.t c_eq (DE.b (de_var 5)) (DE.b de_int)) (dw_and (Cmp.t c_gt (DE.b (de_var 4)) (DE.b de_int)) (dw_and1 (Cmp.t c_le (DE.b (de_var 6)) (DE.b de_int)))))) (dss_one (ds_own 2 (df_add (DE.b (de_add (db_var 2) (DF.b (df_lst (da_cons (de_tup (da_cons (de_add (DE.b (de_var 3)) (DE.b (de_var 3))) (da_cons (de_div (DE.b (de_var 4)) (DE.b de_int)) da_nil))) da_nil))))) (DE.b (de_if (Cmp.t c_eq (DE.b (de_mod (DE.b (dx_callT (lft_D _) bi_int bt_int B.b_int (dab_cons (DE.b (de_var 4)) dab_nil))) (DE.b de_int))) (DE.b de_int)) (DF.e (df_lst (da_cons (de_tup (da_cons (de_var 3) (da_cons de_int da_nil))) da_nil))) (DF.e (df_lst da_nil))))))) (dss_one (ds_if (DW.t (dw_and (Cmp.t c_eq (DE.b (de_var 5)) (DE.b de_int)) (dw_and (Cmp.t c_gt (DE.b (de_var 4)) (DE.b de_int)) (dw_and1 (Cmp.t c_gt (DE.b (de_var 6)) (DE.b de_int)))))) (dss_cons (ds_set 8 (de_add (DE.b de_int) (DE.b (de_call (ok__law_draw B) (da_cons (de_var 0) (da_cons (de_sub (DE.b (de_var 6)) (DE.b de_int)) da_nil)))))) (dss_one (ds_own 2 (df_add (db_var 2) (DF.b (df_lst (da_cons (de_tup (da_cons (de_slice (DE.b (de_var 3)) do_none (do_some (DE.b (de_var 8)))) (da_cons de_int da_nil))) (da_cons (de_tup (da_cons (de_add (DE.b (de_slice (DE.b (de_var 3)) (do_some (DE.b (de_var 8))) do_none)) (DE.b (de_slice (DE.b (de_var 3)) do_none (do_some (DE.b (de_var 8)))))) (da_cons (de_sub (DE.b (de_var 4)) (DE.b de_int)) da_nil))) (da_cons (de_tup (da_cons (de_slice (DE.b (de_var 3)) (do_some (DE.b (de_var 8))) do_none) (da_cons de_int da_nil))) da_nil))))))))) (dss_one (ds_app 2 (de_tup (da_cons (de_var 3) (da_cons (de_var 4) da_nil))))))))))))) (dss_one (ds_ret (dx_callT (lft_D _) bi_tuple bt_tuple B.b_tuple (dab_cons (db_var 2) dab_nil))))))
theorem sc__law_of : FnScope ["_law_m", "_law_some"] ["_law_m", "_law_some"] (defScope s__law_of) := ⟨rfl, rfl, rfl, by decide +kernel, rfl, by decide +kernel, by decide +kernel⟩
theorem ok__law_of (B : Fx P w k) : DFn P w k base 3 "_law_of" 2 F__law_of := by
  obtain ⟨f, fd, F, hm, hb⟩ := B.f__law_of.ex
  exact dfn_of F sc__law_of hm hb fun W => (dss_one (ds_ret (de_ix (DE.b (de_var 1)) (DE.b (de_call (ok__law_draw B) (da_cons (de_var 0) (da_cons (dx_callB (lft_D _) bi_len bt_len B.b_len (dab_cons (DE.b (de_var 1)) dab_nil)) da_nil)))))))
theorem sc__law_borders : FnScope ["_law_row_here", "_law_found", "_law_marks_here", "_law_times_here"] ["_law_row_here"] (defScope s__law_borders) := ⟨rfl, rfl, rfl, by decide +kernel, rfl, by decide +kernel, by decide +kernel⟩
theorem ok__law_borders (B : Fx P w k) : DFn P w k base 1 "_law_borders" 1 F__law_borders := by
  obtain ⟨f, fd, F, hm, hb⟩ := B.f__law_borders.ex
  exact dfn_of F sc__law_borders hm hb fun W => (dss_cons (ds_own 1 (df_lst (da_cons de_int da_nil))) (dss_cons (ds_for [2, 3] (di_val (de_var 0)) (dy_one (dg_tup (dgs_cons (dg_name 2) (dgs_cons (dg_name 3) dgs_nil)))) (dss_one (ds_app 1 (de_add (DE.b (de_ix (db_var 1) (DE.b (de_neg (DE.b de_int))))) (DE.b (de_mul (DE.b (dx_callB (lft_D _) bi_len bt_len B.b_len (dab_cons (DE.b (de_var 2)) dab_nil))) (DE.b (de_var 3)))))))) (dss_one (ds_frzM 1 (ds_ret (de_var 1))))))
theorem sc__law_spot : FnScope ["_law_m", "_law_row_here", "_law_size_here"] ["_law_m", "_law_row_here"] (defScope s__law_spot) := ⟨rfl, rfl, rfl, by decide +kernel, rfl, by decide +kernel, by decide +kernel⟩
theorem ok__law_spot (B : Fx P w k) : DFn P w k base 4 "_law_spot" 2 F__law_spot := by
  obtain ⟨f, fd, F, hm, hb⟩ := B.f__law_spot.ex
  exact dfn_of F sc__law_spot hm hb fun W => (dss_cons (ds_set 2 (de_call (ok__law_size B) (da_cons (de_var 1) da_nil))) (dss_cons (ds_if (Cmp.t c_eq (DE.b (de_call (ok__law_draw B) (da_cons (de_var 0) (da_cons de_int da_nil)))) (DE.b de_int)) (dss_one (ds_ret (de_call (ok__law_below B) (da_cons (de_var 0) (da_cons (de_var 2) da_nil))))) dss_nil) (dss_one (ds_ret (dx_callB (lft_D _) bi_min2 bt_min B.b_min (dab_cons (DE.b (dx_callB (lft_D _) bi_max2 bt_max B.b_max (dab_cons (DE.b (de_sub (DE.b (de_add (DE.b (de_call (ok__law_of B) (da_cons (de_var 0) (da_cons (de_call (ok__law_borders B) (da_cons (de_var 1) da_nil)) da_nil)))) (DE.b (de_call (ok__law_draw B) (da_cons (de_var 0) (da_cons de_int da_nil)))))) (DE.b de_int))) (dab_cons (DE.b de_int) dab_nil)))) (dab_cons (DE.b (de_sub (DE.b (de_var 2)) (DE.b de_int))) dab_nil)))))))
theorem sc__law_mark : FnScope ["_law_row_here", "_law_place", "_law_marks_here", "_law_times_here"] ["_law_row_here", "_law_place"] (defScope s__law_mark) := ⟨rfl, rfl, rfl, by decide +kernel, rfl, by decide +kernel, by decide +kernel⟩
theorem ok__law_mark (B : Fx P w k) : DFn P w k base 1 "_law_mark" 2 F__law_mark := by
  obtain ⟨f, fd, F, hm, hb⟩ := B.f__law_mark.ex
  exact dfn_of F sc__law_mark hm hb fun W => (dss_cons (ds_for [2, 3] (di_val (de_var 0)) (dy_one (dg_tup (dgs_cons (dg_name 2) (dgs_cons (dg_name 3) dgs_nil)))) (dss_cons (ds_if (Cmp.t c_lt (DE.b (de_var 1)) (DE.b (de_mul (DE.b (dx_callB (lft_D _) bi_len bt_len B.b_len (dab_cons (DE.b (de_var 2)) dab_nil))) (DE.b (de_var 3))))) (dss_one (ds_ret (de_ix (DE.b (de_var 2)) (DE.b (de_mod (DE.b (dx_callT (lft_D _) bi_int bt_int B.b_int (dab_cons (DE.b (de_var 1)) dab_nil))) (DE.b (dx_callB (lft_D _) bi_len bt_len B.b_len (dab_cons (DE.b (de_var 2)) dab_nil)))))))) dss_nil) (dss_one (ds_set 1 (de_sub (DE.b (de_var 1)) (DE.b (de_mul (DE.b (dx_callB (lft_D _) bi_len bt_len B.b_len (dab_cons (DE.b (de_var 2)) dab_nil))) (DE.b (de_var 3))))))))) (dss_one (ds_ret de_non)))
theorem sc__law_piece : FnScope ["_law_row_here", "_law_begin", "_law_end_here", "_law_found", "_law_at", "_law_marks_here", "_law_times_here", "_law_size_here", "_law_low", "_law_high", "_law_skip", "_law_rest", "_law_pieces", "_law_piece_here"] ["_law_row_here", "_law_begin", "_law_end_here"] (defScope s__law_piece) := ⟨rfl, rfl, rfl, by decide +kernel, rfl, by decide +kernel, by decide +kernel⟩
theorem ok__law_piece (B : Fx P w k) : DFn P w k base 1 "_law_piece" 3 F__law_piece := by
  obtain ⟨f, fd, F, hm, hb⟩ := B.f__law_piece.ex
  exact dfn_of F sc__law_piece hm hb fun W => (dss_cons (ds_par 3 4 (das_ow (df_lst da_nil) (das_im de_int das_nil))) (dss_cons (ds_for [5, 6, 7, 8, 9, 10, 11, 12] (di_val (de_var 0)) (dy_one (dg_tup (dgs_cons (dg_name 5) (dgs_cons (dg_name 6) dgs_nil)))) (dss_cons (ds_set 7 (dx_callB (lft_D _) bi_len bt_len B.b_len (dab_cons (DE.b (de_var 5)) dab_nil))) (dss_cons (ds_par 8 9 (das_im (de_sub (DE.b (dx_callB (lft_D _) bi_max2 bt_max B.b_max (dab_cons (DE.b (de_var 1)) (dab_cons (DE.b (de_var 4)) dab_nil)))) (DE.b (de_var 4))) (das_im (de_sub (DE.b (dx_callB (lft_D _) bi_min2 bt_min B.b_min (dab_cons (DE.b (de_var 2)) (dab_cons (DE.b (de_add (DE.b (de_var 4)) (DE.b (de_mul (DE.b (de_var 7)) (DE.b (de_var 6)))))) dab_nil)))) (DE.b (de_var 4))) das_nil))) (dss_cons (ds_set 4 (de_add (DE.b (de_var 4)) (DE.b (de_mul (DE.b (de_var 7)) (DE.b (de_var 6)))))) (dss_cons (ds_par 10 11 (das_im (de_mod (DE.b (dx_callT (lft_D _) bi_int bt_int B.b_int (dab_cons (DE.b (de_var 8)) dab_nil))) (DE.b (de_var 7))) (das_im (de_mod (DE.b (dx_callT (lft_D _) bi_int bt_int B.b_int (dab_cons (DE.b (de_var 9)) dab_nil))) (DE.b (de_var 7))) das_nil))) (dss_one (ds_if (DW.t (dw_and (Cmp.t c_lt (DE.b (de_var 8)) (DE.b (de_var 9))) (dw_and1 (Cmp.t c_eq (DE.b (de_div (DE.b (de_var 8)) (DE.b (de_var 7)))) (DE.b (de_div (DE.b (de_sub (DE.b (de_var 9)) (DE.b de_int))) (DE.b (de_var 7)))))))) (dss_one (ds_app 3 (de_tup (da_cons (de_slice (DE.b (de_var 5)) (do_some (DE.b (de_var 10))) (do_some (DE.b (de_sub (DE.b (de_add (DE.b (de_var 10)) (DE.b (de_var 9)))) (DE.b (de_var 8)))))) (da_cons de_int da_nil))))) (dss_one (ds_if (Cmp.t c_lt (DE.b (de_var 8)) (DE.b (de_var 9))) (dss_cons (ds_set 12 (DF.e (df_lst (da_cons (de_tup (da_cons (de_slice (DE.b (de_var 5)) (do_some (DE.b (de_var 10))) do_none) (da_cons (dx_callT (lft_D _) bi_int bt_int B.b_int (dab_cons (DE.b (Cmp.e c_gt (DE.b (de_var 10)) (DE.b de_int))) dab_nil)) da_nil))) (da_cons (de_tup (da_cons (de_var 5) (da_cons (de_sub (DE.b (de_div (DE.b (de_var 9)) (DE.b (de_var 7)))) (DE.b (de_div (DE.b (de_sub (DE.b (de_add (DE.b (de_var 8)) (DE.b (de_var 7)))) (DE.b de_int))) (DE.b (de_var 7))))) da_nil))) da_nil))))) (dss_one (ds_own 3 (df_add (db_var 3) (DF.b (df_comp [("_law_piece_here", 13)] (dig_val (DE.b (de_add (DE.b (de_var 12)) (DF.b (df_lst (da_cons (de_tup (da_cons (de_slice (DE.b (de_var 5)) do_none (do_some (DE.b (de_var 11)))) (da_cons (dx_callT (lft_D _) bi_int bt_int B.b_int (dab_cons (DE.b (Cmp.e c_gt (DE.b (de_var 11)) (DE.b de_int))) dab_nil)) da_nil))) da_nil)))))) (dy_one (dg_name 13)) (dts_one (Cmp.t c_gt (DE.b (de_ix (DE.b (de_var 13)) (DE.b de_int))) (DE.b de_int))) (de_var 13))))))) dss_nil))))))))) (dss_one (ds_ret (dx_callT (lft_D _) bi_tuple bt_tuple B.b_tuple (dab_cons (db_var 3) dab_nil))))))
theorem sc__law_like : FnScope ["_law_got", "_law_due_here"] ["_law_got", "_law_due_here"] (defScope s__law_like) := ⟨rfl, rfl, rfl, by decide +kernel, rfl, by decide +kernel, by decide +kernel⟩
theorem ok__law_like (B : Fx P w k) : DFn P w k base 1 "_law_like" 2 F__law_like := by
  obtain ⟨f, fd, F, hm, hb⟩ := B.f__law_like.ex
  exact dfn_of F sc__law_like hm hb fun W => (dss_one (ds_ret (Cmp.e c_eq (DE.b (dx_callB (lft_D _) bi_repr bt_repr B.b_repr (dab_cons (DE.b (de_var 0)) dab_nil))) (DE.b (dx_callB (lft_D _) bi_repr bt_repr B.b_repr (dab_cons (DE.b (de_var 1)) dab_nil))))))
theorem sc__law_marks : FnScope ["_law_m", "_law_many", "_law_most", "_law_turn"] ["_law_m", "_law_many", "_law_most"] (defScope s__law_marks) := ⟨rfl, rfl, rfl, by decide +kernel, rfl, by decide +kernel, by decide +kernel⟩
theorem ok__law_marks (B : Fx P w k) : DFn P w k base 3 "_law_marks" 3 F__law_marks := by
  obtain ⟨f, fd, F, hm, hb⟩ := B.f__law_marks.ex
  exact dfn_of F sc__law_marks hm hb fun W => (dss_one (ds_ret (DF.e (df_comp [("_law_turn", 3)] (di_range1 B.b_range (dab_cons (DE.b (de_call (ok__law_draw B) (da_cons (de_var 0) (da_cons (de_add (DE.b (de_var 2)) (DE.b de_int)) da_nil)))) dab_nil)) (dy_one (dg_name 3)) dts_nil (de_call (ok__law_draw B) (da_cons (de_var 0) (da_cons (de_var 1) da_nil)))))))
theorem sc__law_row : FnScope ["_law_m", "_law_many", "_law_found", "_law_turn", "_law_marks_here"] ["_law_m", "_law_many"] (defScope s__law_row) := ⟨rfl, rfl, rfl, by decide +kernel, rfl, by decide +kernel, by decide +kernel⟩
theorem ok__law_row (B : Fx P w k) : DFn P w k base 4 "_law_row" 2 F__law_row := by
  obtain ⟨f, fd, F, hm, hb⟩ := B.f__law_row.ex
  exact dfn_of F sc__law_row hm hb fun W => (dss_cons (ds_own 2 (df_lst da_nil)) (dss_cons (ds_for [3, 4] (di_range1 B.b_range (dab_cons (DE.b (de_call (ok__law_draw B) (da_cons (de_var 0) (da_cons de_int da_nil)))) dab_nil)) (dy_one (dg_name 3)) (dss_cons (ds_set 4 (de_add (DF.b (df_lst (da_cons (de_call (ok__law_draw B) (da_cons (de_var 0) (da_cons (de_var 1) da_nil))) da_nil))) (DE.b (de_call (ok__law_marks B) (da_cons (de_var 0) (da_cons (de_var 1) (da_cons de_int da_nil))))))) (dss_one (ds_app 2 (de_tup (da_cons (dx_callT (lft_D _) bi_tuple bt_tuple B.b_tuple (dab_cons (DE.b (de_var 4)) dab_nil)) (da_cons (de_add (DE.b de_int) (DE.b (de_call (ok__law_draw B) (da_cons (de_var 0) (da_cons de_int da_nil))))) da_nil))))))) (dss_one (ds_ret (dx_callT (lft_D _) bi_tuple bt_tuple B.b_tuple (dab_cons (db_var 2) dab_nil))))))
theorem sc__law_two_periods : FnScope ["_law_first", "_law_second", "_law_size_here", "_law_found", "_law_start", "_law_mark_here", "_law_row_here", "_law_n", "_law_step", "_law_there", "_law_place"] ["_law_first", "_law_second"] (defScope s__law_two_periods) := ⟨rfl, rfl, rfl, by decide +kernel, rfl, by decide +kernel, by decide +kernel⟩
theorem ok__law_two_periods (B : Fx P w k) : DFn P w k base 1 "_law_two_periods" 2 F__law_two_periods := by
  obtain ⟨f, fd, F, hm, hb⟩ := B.f__law_two_periods.ex
  exact dfn_of F sc__law_two_periods hm hb fun W => (dss_cons (ds_parC 2 3 (das_im (de_sub (DE.b (de_add (DE.b (de_var 0)) (DE.b (de_var 1)))) (DE.b de_int)) (das_od dd_emp das_nil))) (dss_cons (ds_for [4, 5, 6, 7, 8, 9] (di_range1 B.b_range (dab_cons (DE.b (de_var 2)) dab_nil)) (dy_one (dg_name 4)) (dss_one (ds_if (Cmp.t c_notin (DE.b (de_var 4)) (db_var 3)) (dss_cons (ds_par 5 6 (das_im (dx_callT (lft_D _) bi_int bt_int B.b_int (dab_cons (DE.b (Cmp.e c_ne (db_var 3) (DDc.bw dd_emp))) dab_nil)) (das_ow (df_lst (da_cons (de_var 4) da_nil)) das_nil))) (dss_cons (ds_putD 3 (DE.b (de_var 4)) (de_var 5)) (dss_one (ds_for [7, 8, 9] (di_range1 B.b_range (dab_cons (DE.b (de_var 2)) dab_nil)) (dy_one (dg_name 7)) (dss_cons (ds_if (Cmp.t c_eq (DE.b (de_var 7)) (DE.b (dx_callB (lft_D _) bi_len bt_len B.b_len (dab_cons (db_var 6) dab_nil)))) (dss_one ds_break) dss_nil) (dss_one (ds_for [8, 9] (di_val (de_tup (da_cons (de_var 0) (da_cons (de_var 1) (da_cons (de_sub (DE.b de_int) (DE.b (de_var 0))) (da_cons (de_sub (DE.b de_int) (DE.b (de_var 1))) da_nil)))))) (dy_one (dg_name 8)) (dss_cons (ds_set 9 (de_add (DE.b (de_ix (db_var 6) (DE.b (de_var 7)))) (DE.b (de_var 8)))) (dss_one (ds_if (DW.t (dw_and (dt_chain c_le c_lt (DE.b de_int) (DE.b (de_var 9)) (DE.b (de_var 2))) (dw_and1 (Cmp.t c_notin (DE.b (de_var 9)) (db_var 3))))) (dss_cons (ds_putD 3 (DE.b (de_var 9)) (de_var 5)) (dss_one (ds_app 6 (de_var 9)))) dss_nil)))))))))) dss_nil))) (dss_one (ds_ret (dx_callT (lft_D _) bi_tuple bt_tuple B.b_tuple (dab_cons (DF.b (df_comp [("_law_place", 10)] (di_range1 B.b_range (dab_cons (DE.b (de_var 2)) dab_nil)) (dy_one (dg_name 10)) dts_nil (de_ix (db_var 3) (DE.b (de_var 10))))) dab_nil))))))
theorem sc__law_end : FnScope ["_law_one", "_law_two", "_law_sizes", "_law_n"] ["_law_one", "_law_two"] (defScope s__law_end) := ⟨rfl, rfl, rfl, by decide +kernel, rfl, by decide +kernel, by decide +kernel⟩
theorem ok__law_end (B : Fx P w k) : DFn P w k base 2 "_law_end" 2 F__law_end := by
  obtain ⟨f, fd, F, hm, hb⟩ := B.f__law_end.ex
  exact dfn_of F sc__law_end hm hb fun W => (dss_cons (ds_set 2 (DF.e (df_lst (da_cons (de_call (ok__law_size B) (da_cons (de_var 0) da_nil)) (da_cons (de_call (ok__law_size B) (da_cons (de_var 1) da_nil)) da_nil))))) (dss_cons (ds_for [3] (di_range1 B.b_range (dab_cons (DE.b (dx_callB (lft_D _) bi_min3 bt_min B.b_min (dab_cons (DE.b (de_ix (DE.b (de_var 2)) (DE.b de_int))) (dab_cons (DE.b (de_ix (DE.b (de_var 2)) (DE.b de_int))) (dab_cons (DE.b de_int) dab_nil))))) dab_nil)) (dy_one (dg_name 3)) (dss_one (ds_if (Cmp.t c_ne (DE.b (de_call (ok__law_mark B) (da_cons (de_var 0) (da_cons (de_sub (DE.b (de_sub (DE.b (de_ix (DE.b (de_var 2)) (DE.b de_int))) (DE.b de_int))) (DE.b (de_var 3))) da_nil)))) (DE.b (de_call (ok__law_mark B) (da_cons (de_var 1) (da_cons (de_sub (DE.b (de_sub (DE.b (de_ix (DE.b (de_var 2)) (DE.b de_int))) (DE.b de_int))) (DE.b (de_var 3))) da_nil))))) (dss_one (ds_ret (de_var 3))) dss_nil))) (dss_one (ds_ret (dx_callB (lft_D _) bi_minS bt_min B.b_min (dab_cons (DE.b (de_var 2)) dab_nil))))))
theorem sc_is_whole : FnScope ["value"] ["value"] (defScope s_is_whole) := ⟨rfl, rfl, rfl, by decide +kernel, rfl, by decide +kernel, by decide +kernel⟩
theorem ok_is_whole (B : Fx P w k) : DFn P w k base 1 "is_whole" 1 F_is_whole := by
  obtain ⟨f, fd, F, hm, hb⟩ := B.f_is_whole.ex
  exact dfn_of F sc_is_whole hm hb fun W => (dss_one (ds_ret (de_and (de_isi (DE.b (de_var 0)) B.b_isinstance B.b_int bt_int) (de_one (de_not (DE.b (de_isi (DE.b (de_var 0)) B.b_isinstance B.b_bool bt_bool)))))))
theorem sc_is_within : FnScope ["value", "low", "high"] ["value", "low", "high"] (defScope s_is_within) := ⟨rfl, rfl, rfl, by decide +kernel, rfl, by decide +kernel, by decide +kernel⟩
theorem ok_is_within (B : Fx P w k) : DFn P w k base 2 "is_within" 3 F_is_within := by
  obtain ⟨f, fd, F, hm, hb⟩ := B.f_is_within.ex
  exact dfn_of F sc_is_within hm hb fun W => (dss_one (ds_ret (de_and (de_call (ok_is_whole B) (da_cons (de_var 0) da_nil)) (de_one (de_chain c_le c_le (DE.b (de_var 1)) (DE.b (de_var 0)) (DE.b (de_var 2)))))))
theorem sc_is_tuple_of : FnScope ["value", "many"] ["value", "many"] (defScope s_is_tuple_of) := ⟨rfl, rfl, rfl, by decide +kernel, rfl, by decide +kernel, by decide +kernel⟩
theorem ok_is_tuple_of (B : Fx P w k) : DFn P w k base 1 "is_tuple_of" 2 F_is_tuple_of := by
  obtain ⟨f, fd, F, hm, hb⟩ := B.f_is_tuple_of.ex
  exact dfn_of F sc_is_tuple_of hm hb fun W => (dss_one (ds_ret (de_and (de_isi (DE.b (de_var 0)) B.b_isinstance B.b_tuple bt_tuple) (de_one (Cmp.e c_eq (DE.b (dx_callB (lft_D _) bi_len bt_len B.b_len (dab_cons (DE.b (de_var 0)) dab_nil))) (DE.b (de_var 1)))))))
theorem sc_is_block : FnScope ["value", "mark"] ["value"] (defScope s_is_block) := ⟨rfl, rfl, rfl, by decide +kernel, rfl, by decide +kernel, by decide +kernel⟩
theorem ok_is_block (B : Fx P w k) : DFn P w k base 3 "is_block" 1 F_is_block := by
  obtain ⟨f, fd, F, hm, hb⟩ := B.f_is_block.ex
  exact dfn_of F sc_is_block hm hb fun W => (dss_cons (ds_if (DW.t (dw_or (dt_not (dt_val (DE.b (de_call (ok_is_tuple_of B) (da_cons (de_var 0) (da_cons de_int da_nil)))))) (dw_or (dt_not (dt_val (DE.b (de_isi (DE.b (de_ix (DE.b (de_var 0)) (DE.b de_int))) B.b_isinstance B.b_tuple bt_tuple)))) (dw_or1 (dt_not (dt_chain c_le c_le (DE.b de_int) (DE.b (dx_callB (lft_D _) bi_len bt_len B.b_len (dab_cons (DE.b (de_ix (DE.b (de_var 0)) (DE.b de_int))) dab_nil))) (DE.b (de_gint B.c_MOST_OF_BLOCK)))))))) (dss_one (ds_ret de_bl)) dss_nil) (dss_one (ds_ret (de_and (de_call (ok_is_within B) (da_cons (de_ix (DE.b (de_var 0)) (DE.b de_int)) (da_cons de_int (da_cons (de_gint B.c_MOST_TIMES) da_nil)))) (de_one (dx_callB (lft_D _) bi_all bt_all B.b_all (dab_cons (DF.b (df_comp [("mark", 1)] (dig_val (DE.b (de_ix (DE.b (de_var 0)) (DE.b de_int)))) (dy_one (dg_name 1)) dts_nil (de_call (ok_is_within B) (da_cons (de_var 1) (da_cons de_int (da_cons (de_gint B.c_MOST_MARK) da_nil)))))) dab_nil)))))))
theorem sc_need_row : FnScope ["row", "place", "block"] ["row"] (defScope s_need_row) := ⟨rfl, rfl, rfl, by decide +kernel, rfl, by decide +kernel, by decide +kernel⟩
theorem ok_need_row (B : Fx P w k) : DFn P w k base 4 "need_row" 1 F_need_row := by
  obtain ⟨f, fd, F, hm, hb⟩ := B.f_need_row.ex
  exact dfn_of F sc_need_row hm hb fun W => (dss_cons (ds_if (DW.t (dw_or (dt_not (dt_val (DE.b (de_isi (DE.b (de_var 0)) B.b_isinstance B.b_tuple bt_tuple)))) (dw_or1 (Cmp.t c_gt (DE.b (dx_callB (lft_D _) bi_len bt_len B.b_len (dab_cons (DE.b (de_var 0)) dab_nil))) (DE.b (de_gint B.c_MOST_BLOCKS)))))) (dss_one ds_bad) dss_nil) (dss_cons (ds_for [1, 2] (di_enum B.b_enumerate (da_cons (de_var 0) da_nil)) (dy_many (dgs_cons (dg_name 1) (dgs_cons (dg_name 2) dgs_nil))) (dss_one (ds_if (dt_not (dt_val (DE.b (de_call (ok_is_block B) (da_cons (de_var 2) da_nil))))) (dss_one ds_bad) dss_nil))) (dss_one (ds_ret (de_var 0)))))
theorem sc_parting_within : FnScope ["marks", "begin", "more", "other_begin", "many", "step"] ["marks", "begin", "more", "other_begin", "many"] (defScope s_parting_within) := ⟨rfl, rfl, rfl, by decide +kernel, rfl, by decide +kernel, by decide +kernel⟩
theorem ok_parting_within (B : Fx P w k) : DFn P w k base 1 "parting_within" 5 F_parting_within := by
  obtain ⟨f, fd, F, hm, hb⟩ := B.f_parting_within.ex
  exact dfn_of F sc_parting_within hm hb fun W => (dss_cons (ds_for [5] (di_range1 B.b_range (dab_cons (DE.b (dx_callB (lft_D _) bi_min2 bt_min B.b_min (dab_cons (DE.b (de_var 4)) (dab_cons (DE.b (de_add (DE.b (dx_callB (lft_D _) bi_len bt_len B.b_len (dab_cons (DE.b (de_var 0)) dab_nil))) (DE.b (dx_callB (lft_D _) bi_len bt_len B.b_len (dab_cons (DE.b (de_var 2)) dab_nil))))) dab_nil)))) dab_nil)) (dy_one (dg_name 5)) (dss_one (ds_if (Cmp.t c_ne (DE.b (de_ix (DE.b (de_var 0)) (DE.b (de_mod (DE.b (de_add (DE.b (de_var 1)) (DE.b (de_var 5)))) (DE.b (dx_callB (lft_D _) bi_len bt_len B.b_len (dab_cons (DE.b (de_var 0)) dab_nil))))))) (DE.b (de_ix (DE.b (de_var 2)) (DE.b (de_mod (DE.b (de_add (DE.b (de_var 3)) (DE.b (de_var 5)))) (DE.b (dx_callB (lft_D _) bi_len bt_len B.b_len (dab_cons (DE.b (de_var 2)) dab_nil)))))))) (dss_one (ds_ret (de_var 5))) dss_nil))) (dss_one (ds_ret de_non)))
theorem sc_unlike_place : FnScope ["blocks", "others", "one", "two", "at", "there", "place", "marks", "times", "more", "often", "many", "step"] ["blocks", "others"] (defScope s_unlike_place) := ⟨rfl, rfl, rfl, by decide +kernel, rfl, by decide +kernel, by decide +kernel⟩
theorem ok_unlike_place (B : Fx P w k) : DFn P w k base 2 "unlike_place" 2 F_unlike_place := by
  obtain ⟨f, fd, F, hm, hb⟩ := B.f_unlike_place.ex
  exact dfn_of F sc_unlike_place hm hb fun W => (dss_cons (ds_asg (de_tup (da_cons de_int (da_cons de_int (da_cons de_int (da_cons de_int (da_cons de_int da_nil)))))) (dg_tup (dgs_cons (dg_name 2) (dgs_cons (dg_name 3) (dgs_cons (dg_name 4) (dgs_cons (dg_name 5) (dgs_cons (dg_name 6) dgs_nil))))))) (dss_cons (ds_while [7, 8, 9, 10, 11, 12] (DW.t (dw_and (Cmp.t c_lt (DE.b (de_var 2)) (DE.b (dx_callB (lft_D _) bi_len bt_len B.b_len (dab_cons (DE.b (de_var 0)) dab_nil)))) (dw_and1 (Cmp.t c_lt (DE.b (de_var 3)) (DE.b (dx_callB (lft_D _) bi_len bt_len B.b_len (dab_cons (DE.b (de_var 1)) dab_nil))))))) (dss_cons (ds_asg (de_ix (DE.b (de_var 0)) (DE.b (de_var 2))) (dg_tup (dgs_cons (dg_name 7) (dgs_cons (dg_name 8) dgs_nil)))) (dss_cons (ds_asg (de_ix (DE.b (de_var 1)) (DE.b (de_var 3))) (dg_tup (dgs_cons (dg_name 9) (dgs_cons (dg_name 10) dgs_nil)))) (dss_cons (ds_set 11 (dx_callB (lft_D _) bi_min2 bt_min B.b_min (dab_cons (DE.b (de_sub (DE.b (de_mul (DE.b (dx_callB (lft_D _) bi_len bt_len B.b_len (dab_cons (DE.b (de_var 7)) dab_nil))) (DE.b (de_var 8)))) (DE.b (de_var 4)))) (dab_cons (DE.b (de_sub (DE.b (de_mul (DE.b (dx_callB (lft_D _) bi_len bt_len B.b_len (dab_cons (DE.b (de_var 9)) dab_nil))) (DE.b (de_var 10)))) (DE.b (de_var 5)))) dab_nil)))) (dss_cons (ds_set 12 (de_call (ok_parting_within B) (da_cons (de_var 7) (da_cons (de_var 4) (da_cons (de_var 9) (da_cons (de_var 5) (da_cons (de_var 11) da_nil))))))) (dss_cons (ds_if (Cmp.t c_isnt (DE.b (de_var 12)) (DE.b de_non)) (dss_one (ds_ret (de_add (DE.b (de_var 6)) (DE.b (de_var 12))))) dss_nil) (dss_cons (ds_par3 6 4 5 (da_cons (de_add (DE.b (de_var 6)) (DE.b (de_var 11))) (da_cons (de_add (DE.b (de_var 4)) (DE.b (de_var 11))) (da_cons (de_add (DE.b (de_var 5)) (DE.b (de_var 11))) da_nil)))) (dss_cons (ds_if (Cmp.t c_eq (DE.b (de_var 4)) (DE.b (de_mul (DE.b (dx_callB (lft_D _) bi_len bt_len B.b_len (dab_cons (DE.b (de_var 7)) dab_nil))) (DE.b (de_var 8))))) (dss_one (ds_par 2 4 (das_im (de_add (DE.b (de_var 2)) (DE.b de_int)) (das_im de_int das_nil)))) dss_nil) (dss_one (ds_if (Cmp.t c_eq (DE.b (de_var 5)) (DE.b (de_mul (DE.b (dx_callB (lft_D _) bi_len bt_len B.b_len (dab_cons (DE.b (de_var 9)) dab_nil))) (DE.b (de_var 10))))) (dss_one (ds_par 3 5 (das_im (de_add (DE.b (de_var 3)) (DE.b de_int)) (das_im de_int das_nil)))) dss_nil)))))))))) (dss_one (ds_ret (de_if (DW.t (dw_and (Cmp.t c_eq (DE.b (de_var 2)) (DE.b (dx_callB (lft_D _) bi_len bt_len B.b_len (dab_cons (DE.b (de_var 0)) dab_nil)))) (dw_and1 (Cmp.t c_eq (DE.b (de_var 3)) (DE.b (dx_callB (lft_D _) bi_len bt_len B.b_len (dab_cons (DE.b (de_var 1)) dab_nil))))))) de_non (de_var 6))))))
theorem sc_first_unlike : FnScope ["row", "other_row"] ["row", "other_row"] (defScope s_first_unlike) := ⟨rfl, rfl, rfl, by decide +kernel, rfl, by decide +kernel, by decide +kernel⟩
theorem ok_first_unlike (B : Fx P w k) : DFn P w k base 5 "first_unlike" 2 F_first_unlike := by
  obtain ⟨f, fd, F, hm, hb⟩ := B.f_first_unlike.ex
  exact dfn_of F sc_first_unlike hm hb fun W => (dss_cons (ds_expr (de_call (ok_need_row B) (da_cons (de_var 0) da_nil))) (dss_one (ds_ret (de_call (ok_unlike_place B) (da_cons (de_var 0) (da_cons (de_call (ok_need_row B) (da_cons (de_var 1) da_nil)) da_nil))))))
theorem sc_read_alike : FnScope ["row", "other_row"] ["row", "other_row"] (defScope s_read_alike) := ⟨rfl, rfl, rfl, by decide +kernel, rfl, by decide +kernel, by decide +kernel⟩
theorem ok_read_alike (B : Fx P w k) : DFn P w k base 6 "read_alike" 2 F_read_alike := by
  obtain ⟨f, fd, F, hm, hb⟩ := B.f_read_alike.ex
  exact dfn_of F sc_read_alike hm hb fun W => (dss_one (ds_ret (Cmp.e c_is (DE.b (de_call (ok_first_unlike B) (da_cons (de_var 0) (da_cons (de_var 1) da_nil)))) (DE.b de_non))))
theorem sc_entries_of : FnScope ["blocks", "marks", "times"] ["blocks"] (defScope s_entries_of) := ⟨rfl, rfl, rfl, by decide +kernel, rfl, by decide +kernel, by decide +kernel⟩
theorem ok_entries_of (B : Fx P w k) : DFn P w k base 1 "entries_of" 1 F_entries_of := by
  obtain ⟨f, fd, F, hm, hb⟩ := B.f_entries_of.ex
  exact dfn_of F sc_entries_of hm hb fun W => (dss_one (ds_ret (dx_callB (lft_D _) bi_sum bt_sum B.b_sum (dab_cons (DF.b (df_comp [("marks", 1), ("times", 2)] (dig_val (DE.b (de_var 0))) (dy_one (dg_tup (dgs_cons (dg_name 1) (dgs_cons (dg_name 2) dgs_nil)))) dts_nil (de_mul (DE.b (dx_callB (lft_D _) bi_len bt_len B.b_len (dab_cons (DE.b (de_var 1)) dab_nil))) (DE.b (de_var 2))))) dab_nil))))
theorem sc_mark_there : FnScope ["row", "place", "marks", "times", "size"] ["row", "place"] (defScope s_mark_there) := ⟨rfl, rfl, rfl, by decide +kernel, rfl, by decide +kernel, by decide +kernel⟩
theorem ok_mark_there (B : Fx P w k) : DFn P w k base 1 "mark_there" 2 F_mark_there := by
  obtain ⟨f, fd, F, hm, hb⟩ := B.f_mark_there.ex
  exact dfn_of F sc_mark_there hm hb fun W => (dss_cons (ds_for [2, 3, 4] (di_val (de_var 0)) (dy_one (dg_tup (dgs_cons (dg_name 2) (dgs_cons (dg_name 3) dgs_nil)))) (dss_cons (ds_set 4 (de_mul (DE.b (dx_callB (lft_D _) bi_len bt_len B.b_len (dab_cons (DE.b (de_var 2)) dab_nil))) (DE.b (de_var 3)))) (dss_cons (ds_if (Cmp.t c_lt (DE.b (de_var 1)) (DE.b (de_var 4))) (dss_one (ds_ret (de_ix (DE.b (de_var 2)) (DE.b (de_mod (DE.b (de_var 1)) (DE.b (dx_callB (lft_D _) bi_len bt_len B.b_len (dab_cons (DE.b (de_var 2)) dab_nil)))))))) dss_nil) (dss_one (ds_dec 1 (DE.b (de_var 4))))))) (dss_one (ds_ret de_non)))
theorem sc_is_ahead : FnScope ["row", "other_row", "place", "one", "two"] ["row", "other_row"] (defScope s_is_ahead) := ⟨rfl, rfl, rfl, by decide +kernel, rfl, by decide +kernel, by decide +kernel⟩
theorem ok_is_ahead (B : Fx P w k) : DFn P w k base 6 "is_ahead" 2 F_is_ahead := by
  obtain ⟨f, fd, F, hm, hb⟩ := B.f_is_ahead.ex
  exact dfn_of F sc_is_ahead hm hb fun W => (dss_cons (ds_set 2 (de_call (ok_first_unlike B) (da_cons (de_var 0) (da_cons (de_var 1) da_nil)))) (dss_cons (ds_par 3 4 (das_im (de_call (ok_entries_of B) (da_cons (de_var 0) da_nil)) (das_im (de_call (ok_entries_of B) (da_cons (de_var 1) da_nil)) das_nil))) (dss_cons (ds_if (DW.t (dw_or (Cmp.t c_is (DE.b (de_var 2)) (DE.b de_non)) (dw_or1 (Cmp.t c_ne (DE.b (de_var 3)) (DE.b (de_var 4)))))) (dss_one (ds_ret (Cmp.e c_lt (DE.b (de_var 3)) (DE.b (de_var 4))))) dss_nil) (dss_one (ds_ret (Cmp.e c_lt (DE.b (de_call (ok_mark_there B) (da_cons (de_var 0) (da_cons (de_var 2) da_nil)))) (DE.b (de_call (ok_mark_there B) (da_cons (de_var 1) (da_cons (de_var 2) da_nil))))))))))
theorem sc_blocks_turned : FnScope ["blocks", "marks", "times"] ["blocks"] (defScope s_blocks_turned) := ⟨rfl, rfl, rfl, by decide +kernel, rfl, by decide +kernel, by decide +kernel⟩
theorem ok_blocks_turned (B : Fx P w k) : DFn P w k base 1 "blocks_turned" 1 F_blocks_turned := by
  obtain ⟨f, fd, F, hm, hb⟩ := B.f_blocks_turned.ex
  exact dfn_of F sc_blocks_turned hm hb fun W => (dss_one (ds_ret (dx_callT (lft_D _) bi_tuple bt_tuple B.b_tuple (dab_cons (DF.b (df_comp [("marks", 1), ("times", 2)] (dig_val (DE.b (de_revT (DE.b (de_var 0))))) (dy_one (dg_tup (dgs_cons (dg_name 1) (dgs_cons (dg_name 2) dgs_nil)))) dts_nil (de_tup (da_cons (de_revT (DE.b (de_var 1))) (da_cons (de_var 2) da_nil))))) dab_nil))))
theorem sc_common_end : FnScope ["row", "other_row", "place"] ["row", "other_row"] (defScope s_common_end) := ⟨rfl, rfl, rfl, by decide +kernel, rfl, by decide +kernel, by decide +kernel⟩
theorem ok_common_end (B : Fx P w k) : DFn P w k base 5 "common_end" 2 F_common_end := by
  obtain ⟨f, fd, F, hm, hb⟩ := B.f_common_end.ex
  exact dfn_of F sc_common_end hm hb fun W => (dss_cons (ds_expr (de_call (ok_need_row B) (da_cons (de_var 0) da_nil))) (dss_cons (ds_set 2 (de_call (ok_unlike_place B) (da_cons (de_call (ok_blocks_turned B) (da_cons (de_var 0) da_nil)) (da_cons (de_call (ok_blocks_turned B) (da_cons (de_call (ok_need_row B) (da_cons (de_var 1) da_nil)) da_nil)) da_nil)))) (dss_one (ds_ret (de_if (Cmp.t c_is (DE.b (de_var 2)) (DE.b de_non)) (de_call (ok_entries_of B) (da_cons (de_var 0) da_nil)) (de_var 2))))))
theorem sc__law_asked : FnScope ["_law_one", "_law_two", "_law_found"] ["_law_one", "_law_two"] (defScope s__law_asked) := ⟨rfl, rfl, rfl, by decide +kernel, rfl, by decide +kernel, by decide +kernel⟩
theorem ok__law_asked (B : Fx P w k) : DFn P w k base 7 "_law_asked" 2 F__law_asked := by
  obtain ⟨f, fd, F, hm, hb⟩ := B.f__law_asked.ex
  exact dfn_of F sc__law_asked hm hb fun W => (dss_cons (ds_set 2 (DF.e (df_lst (da_cons (de_call (ok_first_unlike B) (da_cons (de_var 0) (da_cons (de_var 1) da_nil))) (da_cons (de_call (ok_first_unlike B) (da_cons (de_var 1) (da_cons (de_var 0) da_nil))) (da_cons (de_call (ok_read_alike B) (da_cons (de_var 0) (da_cons (de_var 1) da_nil))) (da_cons (de_call (ok_read_alike B) (da_cons (de_var 1) (da_cons (de_var 0) da_nil))) da_nil))))))) (dss_one (ds_ret (de_add (DE.b (de_var 2)) (DF.b (df_lst (da_cons (de_call (ok_is_ahead B) (da_cons (de_var 0) (da_cons (de_var 1) da_nil))) (da_cons (de_call (ok_is_ahead B) (da_cons (de_var 1) (da_cons (de_var 0) da_nil))) (da_cons (de_call (ok_common_end B) (da_cons (de_var 0) (da_cons (de_var 1) da_nil))) (da_cons (de_call (ok_common_end B) (da_cons (de_var 1) (da_cons (de_var 0) da_nil))) da_nil))))))))))
theorem sc__law_parts_late : FnScope ["_law_m", "_law_first", "_law_second", "_law_word", "_law_times_here", "_law_often", "_law_one", "_law_two", "_law_sizes", "_law_place", "_law_less", "_law_end_here", "_law_due_here"] ["_law_m"] (defScope s__law_parts_late) := ⟨rfl, rfl, rfl, by decide +kernel, rfl, by decide +kernel, by decide +kernel⟩
theorem ok__law_parts_late (B : Fx P w k) : DFn P w k base 8 "_law_parts_late" 1 F__law_parts_late := by
  obtain ⟨f, fd, F, hm, hb⟩ := B.f__law_parts_late.ex
  exact dfn_of F sc__law_parts_late hm hb fun W => (dss_cons (ds_set 1 (de_add (DE.b de_int) (DE.b (de_call (ok__law_draw B) (da_cons (de_var 0) (da_cons de_int da_nil)))))) (dss_cons (ds_set 2 (de_if (Cmp.t c_eq (DE.b (de_call (ok__law_draw B) (da_cons (de_var 0) (da_cons de_int da_nil)))) (DE.b de_int)) (de_add (DE.b (de_var 1)) (DE.b de_int)) (de_sub (DE.b (de_mul (DE.b de_int) (DE.b (de_var 1)))) (DE.b de_int)))) (dss_cons (ds_set 3 (de_call (ok__law_two_periods B) (da_cons (de_var 1) (da_cons (de_var 2) da_nil)))) (dss_cons (ds_par 4 5 (das_im (dx_callB (lft_D _) bi_min2 bt_min B.b_min (dab_cons (DE.b (de_add (DE.b (de_var 2)) (DE.b (de_call (ok__law_times B) (da_cons (de_var 0) da_nil))))) (dab_cons (DE.b (de_pow (DE.b de_int) (DE.b de_int))) dab_nil))) (das_im (dx_callB (lft_D _) bi_min2 bt_min B.b_min (dab_cons (DE.b (de_add (DE.b (de_var 1)) (DE.b (de_call (ok__law_times B) (da_cons (de_var 0) da_nil))))) (dab_cons (DE.b (de_pow (DE.b de_int) (DE.b de_int))) dab_nil))) das_nil))) (dss_cons (ds_par 6 7 (das_im (de_tup (da_cons (de_tup (da_cons (de_slice (DE.b (de_var 3)) do_none (do_some (DE.b (de_var 1)))) (da_cons (de_var 4) da_nil))) da_nil)) (das_im (de_tup (da_cons (de_tup (da_cons (de_slice (DE.b (de_var 3)) do_none (do_some (DE.b (de_var 2)))) (da_cons (de_var 5) da_nil))) da_nil)) das_nil))) (dss_cons (ds_par 8 9 (das_im (DF.e (df_lst (da_cons (de_call (ok__law_size B) (da_cons (de_var 6) da_nil)) (da_cons (de_call (ok__law_size B) (da_cons (de_var 7) da_nil)) da_nil)))) (das_im (de_sub (DE.b (de_add (DE.b (de_var 1)) (DE.b (de_var 2)))) (DE.b de_int)) das_nil))) (dss_cons (ds_set 10 (Cmp.e c_lt (DE.b (de_call (ok__law_mark B) (da_cons (de_var 6) (da_cons (de_var 9) da_nil)))) (DE.b (de_call (ok__law_mark B) (da_cons (de_var 7) (da_cons (de_var 9) da_nil)))))) (dss_cons (ds_if (Cmp.t c_ne (DE.b (de_ix (DE.b (de_var 8)) (DE.b de_int))) (DE.b (de_ix (DE.b (de_var 8)) (DE.b de_int)))) (dss_one (ds_set 10 (Cmp.e c_lt (DE.b (de_ix (DE.b (de_var 8)) (DE.b de_int))) (DE.b (de_ix (DE.b (de_var 8)) (DE.b de_int)))))) dss_nil) (dss_cons (ds_set 11 (de_call (ok__law_end B) (da_cons (de_var 6) (da_cons (de_var 7) da_nil)))) (dss_cons (ds_set 12 (DF.e (df_lst (da_cons (de_var 9) (da_cons (de_var 9) (da_cons de_bl (da_cons de_bl (da_cons (de_var 10) (da_cons (de_not (DE.b (de_var 10))) (da_cons (de_var 11) (da_cons (de_var 11) da_nil))))))))))) (dss_one (ds_ret (de_call (ok__law_like B) (da_cons (de_call (ok__law_asked B) (da_cons (de_call (ok__law_rewritten B) (da_cons (de_var 0) (da_cons (de_var 6) da_nil))) (da_cons (de_call (ok__law_rewritten B) (da_cons (de_var 0) (da_cons (de_var 7) da_nil))) da_nil))) (da_cons (de_var 12) da_nil)))))))))))))))
theorem sc__law_part_place : FnScope ["_law_one", "_law_two", "_law_place"] ["_law_one", "_law_two"] (defScope s__law_part_place) := ⟨rfl, rfl, rfl, by decide +kernel, rfl, by decide +kernel, by decide +kernel⟩
theorem ok__law_part_place (B : Fx P w k) : DFn P w k base 1 "_law_part_place" 2 F__law_part_place := by
  obtain ⟨f, fd, F, hm, hb⟩ := B.f__law_part_place.ex
  exact dfn_of F sc__law_part_place hm hb fun W => (dss_cons (ds_for [2] (di_range1 B.b_range (dab_cons (DE.b (dx_callB (lft_D _) bi_max2 bt_max B.b_max (dab_cons (DE.b (dx_callB (lft_D _) bi_len bt_len B.b_len (dab_cons (DE.b (de_var 0)) dab_nil))) (dab_cons (DE.b (dx_callB (lft_D _) bi_len bt_len B.b_len (dab_cons (DE.b (de_var 1)) dab_nil))) dab_nil)))) dab_nil)) (dy_one (dg_name 2)) (dss_one (ds_if (DW.t (dw_or (Cmp.t c_ge (DE.b (de_var 2)) (DE.b (dx_callB (lft_D _) bi_len bt_len B.b_len (dab_cons (DE.b (de_var 0)) dab_nil)))) (dw_or (Cmp.t c_ge (DE.b (de_var 2)) (DE.b (dx_callB (lft_D _) bi_len bt_len B.b_len (dab_cons (DE.b (de_var 1)) dab_nil)))) (dw_or1 (Cmp.t c_ne (DE.b (de_ix (DE.b (de_var 0)) (DE.b (de_var 2)))) (DE.b (de_ix (DE.b (de_var 1)) (DE.b (de_var 2))))))))) (dss_one (ds_ret (de_var 2))) dss_nil))) (dss_one (ds_ret de_non)))
theorem sc__law_due : FnScope ["_law_one", "_law_two", "_law_place", "_law_end_here", "_law_told"] ["_law_one", "_law_two"] (defScope s__law_due) := ⟨rfl, rfl, rfl, by decide +kernel, rfl, by decide +kernel, by decide +kernel⟩
theorem ok__law_due (B : Fx P w k) : DFn P w k base 2 "_law_due" 2 F__law_due := by
  obtain ⟨f, fd, F, hm, hb⟩ := B.f__law_due.ex
  exact dfn_of F sc__law_due hm hb fun W => (dss_cons (ds_par 2 3 (das_im (de_call (ok__law_part_place B) (da_cons (de_var 0) (da_cons (de_var 1) da_nil))) (das_im (de_call (ok__law_part_place B) (da_cons (de_revT (DE.b (de_var 0))) (da_cons (de_revT (DE.b (de_var 1))) da_nil))) das_nil))) (dss_cons (ds_set 4 (DF.e (df_lst (da_cons (de_var 2) (da_cons (de_var 2) (da_cons (Cmp.e c_is (DE.b (de_var 2)) (DE.b de_non)) (da_cons (Cmp.e c_is (DE.b (de_var 2)) (DE.b de_non)) (da_cons (Cmp.e c_ltT (DE.b (de_tup (da_cons (dx_callB (lft_D _) bi_len bt_len B.b_len (dab_cons (DE.b (de_var 0)) dab_nil)) (da_cons (de_var 0) da_nil)))) (DE.b (de_tup (da_cons (dx_callB (lft_D _) bi_len bt_len B.b_len (dab_cons (DE.b (de_var 1)) dab_nil)) (da_cons (de_var 1) da_nil))))) (da_cons (Cmp.e c_ltT (DE.b (de_tup (da_cons (dx_callB (lft_D _) bi_len bt_len B.b_len (dab_cons (DE.b (de_var 1)) dab_nil)) (da_cons (de_var 1) da_nil)))) (DE.b (de_tup (da_cons (dx_callB (lft_D _) bi_len bt_len B.b_len (dab_cons (DE.b (de_var 0)) dab_nil)) (da_cons (de_var 0) da_nil))))) da_nil))))))))) (dss_one (ds_ret (de_add (DE.b (de_var 4)) (DF.b (df_lst (da_cons (de_if (Cmp.t c_is (DE.b (de_var 3)) (DE.b de_non)) (dx_callB (lft_D _) bi_len bt_len B.b_len (dab_cons (DE.b (de_var 0)) dab_nil)) (de_var 3)) (da_cons (de_if (Cmp.t c_is (DE.b (de_var 3)) (DE.b de_non)) (dx_callB (lft_D _) bi_len bt_len B.b_len (dab_cons (DE.b (de_var 0)) dab_nil)) (de_var 3)) da_nil)))))))))
theorem sc__law_flat : FnScope ["_law_row_here", "_law_found", "_law_marks_here", "_law_times_here"] ["_law_row_here"] (defScope s__law_flat) := ⟨rfl, rfl, rfl, by decide +kernel, rfl, by decide +kernel, by decide +kernel⟩
theorem ok__law_flat (B : Fx P w k) : DFn P w k base 1 "_law_flat" 1 F__law_flat := by
  obtain ⟨f, fd, F, hm, hb⟩ := B.f__law_flat.ex
  exact dfn_of F sc__law_flat hm hb fun W => (dss_cons (ds_set 1 (DF.e (df_lst da_nil))) (dss_cons (ds_for [2, 3] (di_val (de_var 0)) (dy_one (dg_tup (dgs_cons (dg_name 2) (dgs_cons (dg_name 3) dgs_nil)))) (dss_one (ds_set 1 (de_add (DE.b (de_var 1)) (DF.b (df_mul (DF.b (dx_callT (lft_F _) bi_list bt_list B.b_list (dab_cons (DE.b (de_var 2)) dab_nil))) (DE.b (de_var 3)))))))) (dss_one (ds_ret (de_var 1)))))
theorem sc_law : FnScope ["_law_script", "_law_m", "_law_row_here", "_law_size_here", "_law_other", "_law_one", "_law_place", "_law_old", "_law_mark_here", "_law_bent", "_law_due_here", "_law_longer", "_law_less", "_law_two"] ["_law_script"] (defScope s_law) := ⟨rfl, rfl, rfl, by decide +kernel, rfl, by decide +kernel, by decide +kernel⟩
theorem ok_law (B : Fx P w k) : DFn P w k base 9 "law" 1 F_law := by
  obtain ⟨f, fd, F, hm, hb⟩ := B.f_law.ex
  exact dfn_of F sc_law hm hb fun W => (dss_cons (ds_set 1 (de_call (ok__law_begun B) (da_cons (de_var 0) da_nil))) (dss_cons (ds_set 2 (de_call (ok__law_wide_row B) (da_cons (de_var 1) (da_cons (de_add (DE.b de_int) (DE.b (de_call (ok__law_draw B) (da_cons (de_var 1) (da_cons de_int da_nil))))) (da_cons de_int da_nil))))) (dss_cons (ds_set 3 (de_call (ok__law_size B) (da_cons (de_var 2) da_nil))) (dss_cons (ds_set 4 (de_call (ok__law_rewritten B) (da_cons (de_var 1) (da_cons (de_var 2) da_nil)))) (dss_cons (ds_for [5] (di_val (de_tup (da_cons (de_var 2) (da_cons (de_var 4) (da_cons (de_call (ok__law_rewritten B) (da_cons (de_var 1) (da_cons (de_var 4) da_nil))) da_nil))))) (dy_one (dg_name 5)) (dss_one (ds_if (dt_not (dt_val (DE.b (de_call (ok__law_like B) (da_cons (de_call (ok__law_asked B) (da_cons (de_var 5) (da_cons (de_var 2) da_nil))) (da_cons (DF.e (df_lst (da_cons de_non (da_cons de_non (da_cons de_bl (da_cons de_bl (da_cons de_bl (da_cons de_bl (da_cons (de_var 3) (da_cons (de_var 3) da_nil)))))))))) da_nil)))))) (dss_one (ds_ret de_bl)) dss_nil))) (dss_cons (ds_set 6 (de_call (ok__law_spot B) (da_cons (de_var 1) (da_cons (de_var 2) da_nil)))) (dss_cons (ds_set 7 (de_call (ok__law_mark B) (da_cons (de_var 2) (da_cons (de_var 6) da_nil)))) (dss_cons (ds_set 8 (de_mod (DE.b (dx_callT (lft_D _) bi_int bt_int B.b_int (dab_cons (DE.b (de_add (DE.b (de_add (DE.b (de_var 7)) (DE.b de_int))) (DE.b (de_call (ok__law_draw B) (da_cons (de_var 1) (da_cons de_int da_nil)))))) dab_nil))) (DE.b de_int))) (dss_cons (ds_set 9 (de_add (DE.b (de_add (DE.b (de_call (ok__law_piece B) (da_cons (de_var 2) (da_cons de_int (da_cons (de_var 6) da_nil))))) (DE.b (de_tup (da_cons (de_tup (da_cons (de_tup (da_cons (de_var 8) da_nil)) (da_cons de_int da_nil))) da_nil))))) (DE.b (de_call (ok__law_piece B) (da_cons (de_var 2) (da_cons (de_add (DE.b (de_var 6)) (DE.b de_int)) (da_cons (de_var 3) da_nil))))))) (dss_cons (ds_set 10 (DF.e (df_lst (da_cons (de_var 6) (da_cons (de_var 6) (da_cons de_bl (da_cons de_bl (da_cons (Cmp.e c_lt (DE.b (de_var 7)) (DE.b (de_var 8))) (da_cons (Cmp.e c_lt (DE.b (de_var 8)) (DE.b (de_var 7))) (da_cons (de_sub (DE.b (de_sub (DE.b (de_var 3)) (DE.b de_int))) (DE.b (de_var 6))) (da_cons (de_sub (DE.b (de_sub (DE.b (de_var 3)) (DE.b de_int))) (DE.b (de_var 6))) da_nil))))))))))) (dss_cons (ds_if (dt_not (dt_val (DE.b (de_call (ok__law_like B) (da_cons (de_call (ok__law_asked B) (da_cons (de_var 4) (da_cons (de_call (ok__law_rewritten B) (da_cons (de_var 1) (da_cons (de_var 9) da_nil))) da_nil))) (da_cons (de_var 10) da_nil)))))) (dss_one (ds_ret de_bl)) dss_nil) (dss_cons (ds_set 11 (de_add (DE.b (de_var 2)) (DE.b (de_tup (da_cons (de_tup (da_cons (de_tup (da_cons (de_call (ok__law_draw B) (da_cons (de_var 1) (da_cons de_int da_nil))) da_nil)) (da_cons (de_add (DE.b de_int) (DE.b (de_call (ok__law_draw B) (da_cons (de_var 1) (da_cons de_int da_nil))))) da_nil))) da_nil))))) (dss_cons (ds_if (dt_not (dt_val (DE.b (de_call (ok__law_like B) (da_cons (de_slice (DE.b (de_call (ok__law_asked B) (da_cons (de_var 2) (da_cons (de_var 11) da_nil)))) do_none (do_some (DE.b de_int))) (da_cons (DF.e (df_lst (da_cons (de_var 3) (da_cons (de_var 3) (da_cons de_bl (da_cons de_bl (da_cons de_bl (da_cons de_bl da_nil)))))))) da_nil)))))) (dss_one (ds_ret de_bl)) dss_nil) (dss_cons (ds_set 12 (de_call (ok__law_piece B) (da_cons (de_var 4) (da_cons de_int (da_cons (de_var 6) da_nil))))) (dss_cons (ds_if (dt_not (dt_val (DE.b (de_call (ok__law_like B) (da_cons (de_slice (DE.b (de_call (ok__law_asked B) (da_cons (de_var 12) (da_cons (de_var 2) da_nil)))) do_none (do_some (DE.b de_int))) (da_cons (DF.e (df_lst (da_cons (de_var 6) (da_cons (de_var 6) (da_cons de_bl (da_cons de_bl (da_cons de_bl (da_cons de_bl da_nil)))))))) da_nil)))))) (dss_one (ds_ret de_bl)) dss_nil) (dss_cons (ds_par 5 13 (das_im (de_call (ok__law_row B) (da_cons (de_var 1) (da_cons de_int da_nil))) (das_im (de_call (ok__law_row B) (da_cons (de_var 1) (da_cons de_int da_nil))) das_nil))) (dss_cons (ds_if (dt_not (dt_val (DE.b (de_call (ok__law_like B) (da_cons (de_call (ok__law_asked B) (da_cons (de_var 5) (da_cons (de_var 13) da_nil))) (da_cons (de_call (ok__law_due B) (da_cons (de_call (ok__law_flat B) (da_cons (de_var 5) da_nil)) (da_cons (de_call (ok__law_flat B) (da_cons (de_var 13) da_nil)) da_nil))) da_nil)))))) (dss_one (ds_ret de_bl)) dss_nil) (dss_one (ds_ret (de_and (de_call (ok__law_like B) (da_cons (de_slice (DE.b (de_call (ok__law_asked B) (da_cons (de_tup da_nil) (da_cons (de_var 2) da_nil)))) do_none (do_some (DE.b de_int))) (da_cons (DF.e (df_lst (da_cons de_int (da_cons de_int (da_cons de_bl (da_cons de_bl (da_cons de_bl (da_cons de_bl da_nil)))))))) da_nil))) (de_one (de_call (ok__law_parts_late B) (da_cons (de_var 1) da_nil)))))))))))))))))))))))
end
theorem fnAt_mk {K : PySem.W.Frag} {h : Heap} {mg : Str → Option Value} {x : Str} {st : Stmt} {ps : List Str} {f : Addr} {od an : Option Addr} {sl : Array (Option Value)} {oc kV dc pm cd ct : Value} (X : K.In h) (G : h.Ns mainGlobals mg)
    (a : PySem.W.nsIn K mainGlobals x = some (some (.ref f))) (l : K.lookup f = some ⟨oc, od, .func (PySem.W.fnOf x x (defArgs st) (defBody st) (defScope st) .none kV dc pm an cd ct), sl⟩) (c : PySem.W.codeIn K cd x = true) (q : PySem.W.keepIn K (.ref f) = true)
    (b : ∀ (kV doc pm : Value) (an : Option Addr) (cdv ct : Value) (us : List Value), us.length = ps.length → bindArgs (PySem.W.fnOf x x (defArgs st) (defBody st) (defScope st) .none kV doc pm an cdv ct) ⟨us, []⟩ = pure (ps.zip us)) : FnAt ⟨K, mg⟩ x st ps :=
  ⟨⟨f, _, fun_mk l c q, PySem.W.mg_of X G a, (fun_mk l c q).binds b⟩⟩
theorem fx_mk {P : Program} {w : World} {K : PySem.W.Frag} {h : Heap} {mg : Str → Option Value} (X : K.In h) (G : h.Ns mainGlobals mg)
    {f0 : Addr} {od0 an0 : Option Addr} {sl0 : Array (Option Value)} {oc0 kV0 dc0 pm0 cd0 ct0 : Value}
    (a0 : PySem.W.nsIn K mainGlobals "_law_folded" = some (some (.ref f0))) (l0 : K.lookup f0 = some ⟨oc0, od0, .func (PySem.W.fnOf "_law_folded" "_law_folded" (defArgs s__law_folded) (defBody s__law_folded) (defScope s__law_folded) .none kV0 dc0 pm0 an0 cd0 ct0), sl0⟩) (c0 : PySem.W.codeIn K cd0 "_law_folded" = true) (q0 : PySem.W.keepIn K (.ref f0) = true)
    {f1 : Addr} {od1 an1 : Option Addr} {sl1 : Array (Option Value)} {oc1 kV1 dc1 pm1 cd1 ct1 : Value}
    (a1 : PySem.W.nsIn K mainGlobals "_law_begun" = some (some (.ref f1))) (l1 : K.lookup f1 = some ⟨oc1, od1, .func (PySem.W.fnOf "_law_begun" "_law_begun" (defArgs s__law_begun) (defBody s__law_begun) (defScope s__law_begun) .none kV1 dc1 pm1 an1 cd1 ct1), sl1⟩) (c1 : PySem.W.codeIn K cd1 "_law_begun" = true) (q1 : PySem.W.keepIn K (.ref f1) = true)
    {f2 : Addr} {od2 an2 : Option Addr} {sl2 : Array (Option Value)} {oc2 kV2 dc2 pm2 cd2 ct2 : Value}
    (a2 : PySem.W.nsIn K mainGlobals "_law_mixed" = some (some (.ref f2))) (l2 : K.lookup f2 = some ⟨oc2, od2, .func (PySem.W.fnOf "_law_mixed" "_law_mixed" (defArgs s__law_mixed) (defBody s__law_mixed) (defScope s__law_mixed) .none kV2 dc2 pm2 an2 cd2 ct2), sl2⟩) (c2 : PySem.W.codeIn K cd2 "_law_mixed" = true) (q2 : PySem.W.keepIn K (.ref f2) = true)
    {f3 : Addr} {od3 an3 : Option Addr} {sl3 : Array (Option Value)} {oc3 kV3 dc3 pm3 cd3 ct3 : Value}
    (a3 : PySem.W.nsIn K mainGlobals "_law_draw" = some (some (.ref f3))) (l3 : K.lookup f3 = some ⟨oc3, od3, .func (PySem.W.fnOf "_law_draw" "_law_draw" (defArgs s__law_draw) (defBody s__law_draw) (defScope s__law_draw) .none kV3 dc3 pm3 an3 cd3 ct3), sl3⟩) (c3 : PySem.W.codeIn K cd3 "_law_draw" = true) (q3 : PySem.W.keepIn K (.ref f3) = true)
    {f4 : Addr} {od4 an4 : Option Addr} {sl4 : Array (Option Value)} {oc4 kV4 dc4 pm4 cd4 ct4 : Value}
    (a4 : PySem.W.nsIn K mainGlobals "_law_tens" = some (some (.ref f4))) (l4 : K.lookup f4 = some ⟨oc4, od4, .func (PySem.W.fnOf "_law_tens" "_law_tens" (defArgs s__law_tens) (defBody s__law_tens) (defScope s__law_tens) .none kV4 dc4 pm4 an4 cd4 ct4), sl4⟩) (c4 : PySem.W.codeIn K cd4 "_law_tens" = true) (q4 : PySem.W.keepIn K (.ref f4) = true)
    {f5 : Addr} {od5 an5 : Option Addr} {sl5 : Array (Option Value)} {oc5 kV5 dc5 pm5 cd5 ct5 : Value}
    (a5 : PySem.W.nsIn K mainGlobals "_law_times" = some (some (.ref f5))) (l5 : K.lookup f5 = some ⟨oc5, od5, .func (PySem.W.fnOf "_law_times" "_law_times" (defArgs s__law_times) (defBody s__law_times) (defScope s__law_times) .none kV5 dc5 pm5 an5 cd5 ct5), sl5⟩) (c5 : PySem.W.codeIn K cd5 "_law_times" = true) (q5 : PySem.W.keepIn K (.ref f5) = true)
    {f6 : Addr} {od6 an6 : Option Addr} {sl6 : Array (Option Value)} {oc6 kV6 dc6 pm6 cd6 ct6 : Value}
    (a6 : PySem.W.nsIn K mainGlobals "_law_wide_row" = some (some (.ref f6))) (l6 : K.lookup f6 = some ⟨oc6, od6, .func (PySem.W.fnOf "_law_wide_row" "_law_wide_row" (defArgs s__law_wide_row) (defBody s__law_wide_row) (defScope s__law_wide_row) .none kV6 dc6 pm6 an6 cd6 ct6), sl6⟩) (c6 : PySem.W.codeIn K cd6 "_law_wide_row" = true) (q6 : PySem.W.keepIn K (.ref f6) = true)
    {f7 : Addr} {od7 an7 : Option Addr} {sl7 : Array (Option Value)} {oc7 kV7 dc7 pm7 cd7 ct7 : Value}
    (a7 : PySem.W.nsIn K mainGlobals "_law_size" = some (some (.ref f7))) (l7 : K.lookup f7 = some ⟨oc7, od7, .func (PySem.W.fnOf "_law_size" "_law_size" (defArgs s__law_size) (defBody s__law_size) (defScope s__law_size) .none kV7 dc7 pm7 an7 cd7 ct7), sl7⟩) (c7 : PySem.W.codeIn K cd7 "_law_size" = true) (q7 : PySem.W.keepIn K (.ref f7) = true)
    {f8 : Addr} {od8 an8 : Option Addr} {sl8 : Array (Option Value)} {oc8 kV8 dc8 pm8 cd8 ct8 : Value}
    (a8 : PySem.W.nsIn K mainGlobals "_law_below" = some (some (.ref f8))) (l8 : K.lookup f8 = some ⟨oc8, od8, .func (PySem.W.fnOf "_law_below" "_law_below" (defArgs s__law_below) (defBody s__law_below) (defScope s__law_below) .none kV8 dc8 pm8 an8 cd8 ct8), sl8⟩) (c8 : PySem.W.codeIn K cd8 "_law_below" = true) (q8 : PySem.W.keepIn K (.ref f8) = true)
    {f9 : Addr} {od9 an9 : Option Addr} {sl9 : Array (Option Value)} {oc9 kV9 dc9 pm9 cd9 ct9 : Value}
    (a9 : PySem.W.nsIn K mainGlobals "_law_rewritten" = some (some (.ref f9))) (l9 : K.lookup f9 = some ⟨oc9, od9, .func (PySem.W.fnOf "_law_rewritten" "_law_rewritten" (defArgs s__law_rewritten) (defBody s__law_rewritten) (defScope s__law_rewritten) .none kV9 dc9 pm9 an9 cd9 ct9), sl9⟩) (c9 : PySem.W.codeIn K cd9 "_law_rewritten" = true) (q9 : PySem.W.keepIn K (.ref f9) = true)
    {f10 : Addr} {od10 an10 : Option Addr} {sl10 : Array (Option Value)} {oc10 kV10 dc10 pm10 cd10 ct10 : Value}
    (a10 : PySem.W.nsIn K mainGlobals "_law_of" = some (some (.ref f10))) (l10 : K.lookup f10 = some ⟨oc10, od10, .func (PySem.W.fnOf "_law_of" "_law_of" (defArgs s__law_of) (defBody s__law_of) (defScope s__law_of) .none kV10 dc10 pm10 an10 cd10 ct10), sl10⟩) (c10 : PySem.W.codeIn K cd10 "_law_of" = true) (q10 : PySem.W.keepIn K (.ref f10) = true)
    {f11 : Addr} {od11 an11 : Option Addr} {sl11 : Array (Option Value)} {oc11 kV11 dc11 pm11 cd11 ct11 : Value}
    (a11 : PySem.W.nsIn K mainGlobals "_law_borders" = some (some (.ref f11))) (l11 : K.lookup f11 = some ⟨oc11, od11, .func (PySem.W.fnOf "_law_borders" "_law_borders" (defArgs s__law_borders) (defBody s__law_borders) (defScope s__law_borders) .none kV11 dc11 pm11 an11 cd11 ct11), sl11⟩) (c11 : PySem.W.codeIn K cd11 "_law_borders" = true) (q11 : PySem.W.keepIn K (.ref f11) = true)
    {f12 : Addr} {od12 an12 : Option Addr} {sl12 : Array (Option Value)} {oc12 kV12 dc12 pm12 cd12 ct12 : Value}
    (a12 : PySem.W.nsIn K mainGlobals "_law_spot" = some (some (.ref f12))) (l12 : K.lookup f12 = some ⟨oc12, od12, .func (PySem.W.fnOf "_law_spot" "_law_spot" (defArgs s__law_spot) (defBody s__law_spot) (defScope s__law_spot) .none kV12 dc12 pm12 an12 cd12 ct12), sl12⟩) (c12 : PySem.W.codeIn K cd12 "_law_spot" = true) (q12 : PySem.W.keepIn K (.ref f12) = true)
    {f13 : Addr} {od13 an13 : Option Addr} {sl13 : Array (Option Value)} {oc13 kV13 dc13 pm13 cd13 ct13 : Value}
    (a13 : PySem.W.nsIn K mainGlobals "_law_mark" = some (some (.ref f13))) (l13 : K.lookup f13 = some ⟨oc13, od13, .func (PySem.W.fnOf "_law_mark" "_law_mark" (defArgs s__law_mark) (defBody s__law_mark) (defScope s__law_mark) .none kV13 dc13 pm13 an13 cd13 ct13), sl13⟩) (c13 : PySem.W.codeIn K cd13 "_law_mark" = true) (q13 : PySem.W.keepIn K (.ref f13) = true)
    {f14 : Addr} {od14 an14 : Option Addr} {sl14 : Array (Option Value)} {oc14 kV14 dc14 pm14 cd14 ct14 : Value}
    (a14 : PySem.W.nsIn K mainGlobals "_law_piece" = some (some (.ref f14))) (l14 : K.lookup f14 = some ⟨oc14, od14, .func (PySem.W.fnOf "_law_piece" "_law_piece" (defArgs s__law_piece) (defBody s__law_piece) (defScope s__law_piece) .none kV14 dc14 pm14 an14 cd14 ct14), sl14⟩) (c14 : PySem.W.codeIn K cd14 "_law_piece" = true) (q14 : PySem.W.keepIn K (.ref f14) = true)
    {f15 : Addr} {od15 an15 : Option Addr} {sl15 : Array (Option Value)} {oc15 kV15 dc15 pm15 cd15 ct15 : Value}
    (a15 : PySem.W.nsIn K mainGlobals "_law_like" = some (some (.ref f15))) (l15 : K.lookup f15 = some ⟨oc15, od15, .func (PySem.W.fnOf "_law_like" "_law_like" (defArgs s__law_like) (defBody s__law_like) (defScope s__law_like) .none kV15 dc15 pm15 an15 cd15 ct15), sl15⟩) (c15 : PySem.W.codeIn K cd15 "_law_like" = true) (q15 : PySem.W.keepIn K (.ref f15) = true)
    {f16 : Addr} {od16 an16 : Option Addr} {sl16 : Array (Option Value)} {oc16 kV16 dc16 pm16 cd16 ct16 : Value}
    (a16 : PySem.W.nsIn K mainGlobals "_law_marks" = some (some (.ref f16))) (l16 : K.lookup f16 = some ⟨oc16, od16, .func (PySem.W.fnOf "_law_marks" "_law_marks" (defArgs s__law_marks) (defBody s__law_marks) (defScope s__law_marks) .none kV16 dc16 pm16 an16 cd16 ct16), sl16⟩) (c16 : PySem.W.codeIn K cd16 "_law_marks" = true) (q16 : PySem.W.keepIn K (.ref f16) = true)
    {f17 : Addr} {od17 an17 : Option Addr} {sl17 : Array (Option Value)} {oc17 kV17 dc17 pm17 cd17 ct17 : Value}
    (a17 : PySem.W.nsIn K mainGlobals "_law_row" = some (some (.ref f17))) (l17 : K.lookup f17 = some ⟨oc17, od17, .func (PySem.W.fnOf "_law_row" "_law_row" (defArgs s__law_row) (defBody s__law_row) (defScope s__law_row) .none kV17 dc17 pm17 an17 cd17 ct17), sl17⟩) (c17 : PySem.W.codeIn K cd17 "_law_row" = true) (q17 : PySem.W.keepIn K (.ref f17) = true)
    {f18 : Addr} {od18 an18 : Option Addr} {sl18 : Array (Option Value)} {oc18 kV18 dc18 pm18 cd18 ct18 : Value}
    (a18 : PySem.W.nsIn K mainGlobals "_law_two_periods" = some (some (.ref f18))) (l18 : K.lookup f18 = some ⟨oc18, od18, .func (PySem.W.fnOf "_law_two_periods" "_law_two_periods" (defArgs s__law_two_periods) (defBody s__law_two_periods) (defScope s__law_two_periods) .none kV18 dc18 pm18 an18 cd18 ct18), sl18⟩) (c18 : PySem.W.codeIn K cd18 "_law_two_periods" = true) (q18 : PySem.W.keepIn K (.ref f18) = true)
    {f19 : Addr} {od19 an19 : Option Addr} {sl19 : Array (Option Value)} {oc19 kV19 dc19 pm19 cd19 ct19 : Value}
    (a19 : PySem.W.nsIn K mainGlobals "_law_end" = some (some (.ref f19))) (l19 : K.lookup f19 = some ⟨oc19, od19, .func (PySem.W.fnOf "_law_end" "_law_end" (defArgs s__law_end) (defBody s__law_end) (defScope s__law_end) .none kV19 dc19 pm19 an19 cd19 ct19), sl19⟩) (c19 : PySem.W.codeIn K cd19 "_law_end" = true) (q19 : PySem.W.keepIn K (.ref f19) = true)
    {f20 : Addr} {od20 an20 : Option Addr} {sl20 : Array (Option Value)} {oc20 kV20 dc20 pm20 cd20 ct20 : Value}
    (a20 : PySem.W.nsIn K mainGlobals "is_whole" = some (some (.ref f20))) (l20 : K.lookup f20 = some ⟨oc20, od20, .func (PySem.W.fnOf "is_whole" "is_whole" (defArgs s_is_whole) (defBody s_is_whole) (defScope s_is_whole) .none kV20 dc20 pm20 an20 cd20 ct20), sl20⟩) (c20 : PySem.W.codeIn K cd20 "is_whole" = true) (q20 : PySem.W.keepIn K (.ref f20) = true)
    {f21 : Addr} {od21 an21 : Option Addr} {sl21 : Array (Option Value)} {oc21 kV21 dc21 pm21 cd21 ct21 : Value}
    (a21 : PySem.W.nsIn K mainGlobals "is_within" = some (some (.ref f21))) (l21 : K.lookup f21 = some ⟨oc21, od21, .func (PySem.W.fnOf "is_within" "is_within" (defArgs s_is_within) (defBody s_is_within) (defScope s_is_within) .none kV21 dc21 pm21 an21 cd21 ct21), sl21⟩) (c21 : PySem.W.codeIn K cd21 "is_within" = true) (q21 : PySem.W.keepIn K (.ref f21) = true)
    {f22 : Addr} {od22 an22 : Option Addr} {sl22 : Array (Option Value)} {oc22 kV22 dc22 pm22 cd22 ct22 : Value}
    (a22 : PySem.W.nsIn K mainGlobals "is_tuple_of" = some (some (.ref f22))) (l22 : K.lookup f22 = some ⟨oc22, od22, .func (PySem.W.fnOf "is_tuple_of" "is_tuple_of" (defArgs s_is_tuple_of) (defBody s_is_tuple_of) (defScope s_is_tuple_of) .none kV22 dc22 pm22 an22 cd22 ct22), sl22⟩) (c22 : PySem.W.codeIn K cd22 "is_tuple_of" = true) (q22 : PySem.W.keepIn K (.ref f22) = true)
    {f23 : Addr} {od23 an23 : Option Addr} {sl23 : Array (Option Value)} {oc23 kV23 dc23 pm23 cd23 ct23 : Value}
    (a23 : PySem.W.nsIn K mainGlobals "is_block" = some (some (.ref f23))) (l23 : K.lookup f23 = some ⟨oc23, od23, .func (PySem.W.fnOf "is_block" "is_block" (defArgs s_is_block) (defBody s_is_block) (defScope s_is_block) .none kV23 dc23 pm23 an23 cd23 ct23), sl23⟩) (c23 : PySem.W.codeIn K cd23 "is_block" = true) (q23 : PySem.W.keepIn K (.ref f23) = true)
    {f24 : Addr} {od24 an24 : Option Addr} {sl24 : Array (Option Value)} {oc24 kV24 dc24 pm24 cd24 ct24 : Value}
    (a24 : PySem.W.nsIn K mainGlobals "need_row" = some (some (.ref f24))) (l24 : K.lookup f24 = some ⟨oc24, od24, .func (PySem.W.fnOf "need_row" "need_row" (defArgs s_need_row) (defBody s_need_row) (defScope s_need_row) .none kV24 dc24 pm24 an24 cd24 ct24), sl24⟩) (c24 : PySem.W.codeIn K cd24 "need_row" = true) (q24 : PySem.W.keepIn K (.ref f24) = true)
    {f25 : Addr} {od25 an25 : Option Addr} {sl25 : Array (Option Value)} {oc25 kV25 dc25 pm25 cd25 ct25 : Value}
    (a25 : PySem.W.nsIn K mainGlobals "parting_within" = some (some (.ref f25))) (l25 : K.lookup f25 = some ⟨oc25, od25, .func (PySem.W.fnOf "parting_within" "parting_within" (defArgs s_parting_within) (defBody s_parting_within) (defScope s_parting_within) .none kV25 dc25 pm25 an25 cd25 ct25), sl25⟩) (c25 : PySem.W.codeIn K cd25 "parting_within" = true) (q25 : PySem.W.keepIn K (.ref f25) = true)
    {f26 : Addr} {od26 an26 : Option Addr} {sl26 : Array (Option Value)} {oc26 kV26 dc26 pm26 cd26 ct26 : Value}
    (a26 : PySem.W.nsIn K mainGlobals "unlike_place" = some (some (.ref f26))) (l26 : K.lookup f26 = some ⟨oc26, od26, .func (PySem.W.fnOf "unlike_place" "unlike_place" (defArgs s_unlike_place) (defBody s_unlike_place) (defScope s_unlike_place) .none kV26 dc26 pm26 an26 cd26 ct26), sl26⟩) (c26 : PySem.W.codeIn K cd26 "unlike_place" = true) (q26 : PySem.W.keepIn K (.ref f26) = true)
    {f27 : Addr} {od27 an27 : Option Addr} {sl27 : Array (Option Value)} {oc27 kV27 dc27 pm27 cd27 ct27 : Value}
    (a27 : PySem.W.nsIn K mainGlobals "first_unlike" = some (some (.ref f27))) (l27 : K.lookup f27 = some ⟨oc27, od27, .func (PySem.W.fnOf "first_unlike" "first_unlike" (defArgs s_first_unlike) (defBody s_first_unlike) (defScope s_first_unlike) .none kV27 dc27 pm27 an27 cd27 ct27), sl27⟩) (c27 : PySem.W.codeIn K cd27 "first_unlike" = true) (q27 : PySem.W.keepIn K (.ref f27) = true)
    {f28 : Addr} {od28 an28 : Option Addr} {sl28 : Array (Option Value)} {oc28 kV28 dc28 pm28 cd28 ct28 : Value}
    (a28 : PySem.W.nsIn K mainGlobals "read_alike" = some (some (.ref f28))) (l28 : K.lookup f28 = some ⟨oc28, od28, .func (PySem.W.fnOf "read_alike" "read_alike" (defArgs s_read_alike) (defBody s_read_alike) (defScope s_read_alike) .none kV28 dc28 pm28 an28 cd28 ct28), sl28⟩) (c28 : PySem.W.codeIn K cd28 "read_alike" = true) (q28 : PySem.W.keepIn K (.ref f28) = true)
    {f29 : Addr} {od29 an29 : Option Addr} {sl29 : Array (Option Value)} {oc29 kV29 dc29 pm29 cd29 ct29 : Value}
    (a29 : PySem.W.nsIn K mainGlobals "entries_of" = some (some (.ref f29))) (l29 : K.lookup f29 = some ⟨oc29, od29, .func (PySem.W.fnOf "entries_of" "entries_of" (defArgs s_entries_of) (defBody s_entries_of) (defScope s_entries_of) .none kV29 dc29 pm29 an29 cd29 ct29), sl29⟩) (c29 : PySem.W.codeIn K cd29 "entries_of" = true) (q29 : PySem.W.keepIn K (.ref f29) = true)
    {f30 : Addr} {od30 an30 : Option Addr} {sl30 : Array (Option Value)} {oc30 kV30 dc30 pm30 cd30 ct30 : Value}
    (a30 : PySem.W.nsIn K mainGlobals "mark_there" = some (some (.ref f30))) (l30 : K.lookup f30 = some ⟨oc30, od30, .func (PySem.W.fnOf "mark_there" "mark_there" (defArgs s_mark_there) (defBody s_mark_there) (defScope s_mark_there) .none kV30 dc30 pm30 an30 cd30 ct30), sl30⟩) (c30 : PySem.W.codeIn K cd30 "mark_there" = true) (q30 : PySem.W.keepIn K (.ref f30) = true)
    {f31 : Addr} {od31 an31 : Option Addr} {sl31 : Array (Option Value)} {oc31 kV31 dc31 pm31 cd31 ct31 : Value}
    (a31 : PySem.W.nsIn K mainGlobals "is_ahead" = some (some (.ref f31))) (l31 : K.lookup f31 = some ⟨oc31, od31, .func (PySem.W.fnOf "is_ahead" "is_ahead" (defArgs s_is_ahead) (defBody s_is_ahead) (defScope s_is_ahead) .none kV31 dc31 pm31 an31 cd31 ct31), sl31⟩) (c31 : PySem.W.codeIn K cd31 "is_ahead" = true) (q31 : PySem.W.keepIn K (.ref f31) = true)
    {f32 : Addr} {od32 an32 : Option Addr} {sl32 : Array (Option Value)} {oc32 kV32 dc32 pm32 cd32 ct32 : Value}
    (a32 : PySem.W.nsIn K mainGlobals "blocks_turned" = some (some (.ref f32))) (l32 : K.lookup f32 = some ⟨oc32, od32, .func (PySem.W.fnOf "blocks_turned" "blocks_turned" (defArgs s_blocks_turned) (defBody s_blocks_turned) (defScope s_blocks_turned) .none kV32 dc32 pm32 an32 cd32 ct32), sl32⟩) (c32 : PySem.W.codeIn K cd32 "blocks_turned" = true) (q32 : PySem.W.keepIn K (.ref f32) = true)
    {f33 : Addr} {od33 an33 : Option Addr} {sl33 : Array (Option Value)} {oc33 kV33 dc33 pm33 cd33 ct33 : Value}
    (a33 : PySem.W.nsIn K mainGlobals "common_end" = some (some (.ref f33))) (l33 : K.lookup f33 = some ⟨oc33, od33, .func (PySem.W.fnOf "common_end" "common_end" (defArgs s_common_end) (defBody s_common_end) (defScope s_common_end) .none kV33 dc33 pm33 an33 cd33 ct33), sl33⟩) (c33 : PySem.W.codeIn K cd33 "common_end" = true) (q33 : PySem.W.keepIn K (.ref f33) = true)
    {f34 : Addr} {od34 an34 : Option Addr} {sl34 : Array (Option Value)} {oc34 kV34 dc34 pm34 cd34 ct34 : Value}
    (a34 : PySem.W.nsIn K mainGlobals "_law_asked" = some (some (.ref f34))) (l34 : K.lookup f34 = some ⟨oc34, od34, .func (PySem.W.fnOf "_law_asked" "_law_asked" (defArgs s__law_asked) (defBody s__law_asked) (defScope s__law_asked) .none kV34 dc34 pm34 an34 cd34 ct34), sl34⟩) (c34 : PySem.W.codeIn K cd34 "_law_asked" = true) (q34 : PySem.W.keepIn K (.ref f34) = true)
    {f35 : Addr} {od35 an35 : Option Addr} {sl35 : Array (Option Value)} {oc35 kV35 dc35 pm35 cd35 ct35 : Value}
    (a35 : PySem.W.nsIn K mainGlobals "_law_parts_late" = some (some (.ref f35))) (l35 : K.lookup f35 = some ⟨oc35, od35, .func (PySem.W.fnOf "_law_parts_late" "_law_parts_late" (defArgs s__law_parts_late) (defBody s__law_parts_late) (defScope s__law_parts_late) .none kV35 dc35 pm35 an35 cd35 ct35), sl35⟩) (c35 : PySem.W.codeIn K cd35 "_law_parts_late" = true) (q35 : PySem.W.keepIn K (.ref f35) = true)
    {f36 : Addr} {od36 an36 : Option Addr} {sl36 : Array (Option Value)} {oc36 kV36 dc36 pm36 cd36 ct36 : Value}
    (a36 : PySem.W.nsIn K mainGlobals "_law_part_place" = some (some (.ref f36))) (l36 : K.lookup f36 = some ⟨oc36, od36, .func (PySem.W.fnOf "_law_part_place" "_law_part_place" (defArgs s__law_part_place) (defBody s__law_part_place) (defScope s__law_part_place) .none kV36 dc36 pm36 an36 cd36 ct36), sl36⟩) (c36 : PySem.W.codeIn K cd36 "_law_part_place" = true) (q36 : PySem.W.keepIn K (.ref f36) = true)
    {f37 : Addr} {od37 an37 : Option Addr} {sl37 : Array (Option Value)} {oc37 kV37 dc37 pm37 cd37 ct37 : Value}
    (a37 : PySem.W.nsIn K mainGlobals "_law_due" = some (some (.ref f37))) (l37 : K.lookup f37 = some ⟨oc37, od37, .func (PySem.W.fnOf "_law_due" "_law_due" (defArgs s__law_due) (defBody s__law_due) (defScope s__law_due) .none kV37 dc37 pm37 an37 cd37 ct37), sl37⟩) (c37 : PySem.W.codeIn K cd37 "_law_due" = true) (q37 : PySem.W.keepIn K (.ref f37) = true)
    {f38 : Addr} {od38 an38 : Option Addr} {sl38 : Array (Option Value)} {oc38 kV38 dc38 pm38 cd38 ct38 : Value}
    (a38 : PySem.W.nsIn K mainGlobals "_law_flat" = some (some (.ref f38))) (l38 : K.lookup f38 = some ⟨oc38, od38, .func (PySem.W.fnOf "_law_flat" "_law_flat" (defArgs s__law_flat) (defBody s__law_flat) (defScope s__law_flat) .none kV38 dc38 pm38 an38 cd38 ct38), sl38⟩) (c38 : PySem.W.codeIn K cd38 "_law_flat" = true) (q38 : PySem.W.keepIn K (.ref f38) = true)
    {f39 : Addr} {od39 an39 : Option Addr} {sl39 : Array (Option Value)} {oc39 kV39 dc39 pm39 cd39 ct39 : Value}
    (a39 : PySem.W.nsIn K mainGlobals "law" = some (some (.ref f39))) (l39 : K.lookup f39 = some ⟨oc39, od39, .func (PySem.W.fnOf "law" "law" (defArgs s_law) (defBody s_law) (defScope s_law) .none kV39 dc39 pm39 an39 cd39 ct39), sl39⟩) (c39 : PySem.W.codeIn K cd39 "law" = true) (q39 : PySem.W.keepIn K (.ref f39) = true)
    (z_all : PySem.W.nsIn K mainGlobals "all" = some none)
    (z_bool : PySem.W.nsIn K mainGlobals "bool" = some none)
    (z_enumerate : PySem.W.nsIn K mainGlobals "enumerate" = some none)
    (z_int : PySem.W.nsIn K mainGlobals "int" = some none)
    (z_isinstance : PySem.W.nsIn K mainGlobals "isinstance" = some none)
    (z_len : PySem.W.nsIn K mainGlobals "len" = some none)
    (z_list : PySem.W.nsIn K mainGlobals "list" = some none)
    (z_max : PySem.W.nsIn K mainGlobals "max" = some none)
    (z_min : PySem.W.nsIn K mainGlobals "min" = some none)
    (z_range : PySem.W.nsIn K mainGlobals "range" = some none)
    (z_repr : PySem.W.nsIn K mainGlobals "repr" = some none)
    (z_sum : PySem.W.nsIn K mainGlobals "sum" = some none)
    (z_tuple : PySem.W.nsIn K mainGlobals "tuple" = some none)
    {t_MOST_BLOCKS : Tok} (v_MOST_BLOCKS : PySem.W.nsIn K mainGlobals "MOST_BLOCKS" = some (some (.int 60 t_MOST_BLOCKS)))
    {t_MOST_MARK : Tok} (v_MOST_MARK : PySem.W.nsIn K mainGlobals "MOST_MARK" = some (some (.int 3 t_MOST_MARK)))
    {t_MOST_OF_BLOCK : Tok} (v_MOST_OF_BLOCK : PySem.W.nsIn K mainGlobals "MOST_OF_BLOCK" = some (some (.int 60 t_MOST_OF_BLOCK)))
    {t_MOST_TIMES : Tok} (v_MOST_TIMES : PySem.W.nsIn K mainGlobals "MOST_TIMES" = some (some (.int 1000000000000000000000000000000 t_MOST_TIMES))) : Fx P w ⟨K, mg⟩ where
  f__law_folded := fnAt_mk X G a0 l0 c0 q0 fun _ _ _ _ _ _ us hl => match us, hl with | [_], _ => rfl
  f__law_begun := fnAt_mk X G a1 l1 c1 q1 fun _ _ _ _ _ _ us hl => match us, hl with | [_], _ => rfl
  f__law_mixed := fnAt_mk X G a2 l2 c2 q2 fun _ _ _ _ _ _ us hl => match us, hl with | [_, _], _ => rfl
  f__law_draw := fnAt_mk X G a3 l3 c3 q3 fun _ _ _ _ _ _ us hl => match us, hl with | [_, _], _ => rfl
  f__law_tens := fnAt_mk X G a4 l4 c4 q4 fun _ _ _ _ _ _ us hl => match us, hl with | [_], _ => rfl
  f__law_times := fnAt_mk X G a5 l5 c5 q5 fun _ _ _ _ _ _ us hl => match us, hl with | [_], _ => rfl
  f__law_wide_row := fnAt_mk X G a6 l6 c6 q6 fun _ _ _ _ _ _ us hl => match us, hl with | [_, _, _], _ => rfl
  f__law_size := fnAt_mk X G a7 l7 c7 q7 fun _ _ _ _ _ _ us hl => match us, hl with | [_], _ => rfl
  f__law_below := fnAt_mk X G a8 l8 c8 q8 fun _ _ _ _ _ _ us hl => match us, hl with | [_, _], _ => rfl
  f__law_rewritten := fnAt_mk X G a9 l9 c9 q9 fun _ _ _ _ _ _ us hl => match us, hl with | [_, _], _ => rfl
  f__law_of := fnAt_mk X G a10 l10 c10 q10 fun _ _ _ _ _ _ us hl => match us, hl with | [_, _], _ => rfl
  f__law_borders := fnAt_mk X G a11 l11 c11 q11 fun _ _ _ _ _ _ us hl => match us, hl with | [_], _ => rfl
  f__law_spot := fnAt_mk X G a12 l12 c12 q12 fun _ _ _ _ _ _ us hl => match us, hl with | [_, _], _ => rfl
  f__law_mark := fnAt_mk X G a13 l13 c13 q13 fun _ _ _ _ _ _ us hl => match us, hl with | [_, _], _ => rfl
  f__law_piece := fnAt_mk X G a14 l14 c14 q14 fun _ _ _ _ _ _ us hl => match us, hl with | [_, _, _], _ => rfl
  f__law_like := fnAt_mk X G a15 l15 c15 q15 fun _ _ _ _ _ _ us hl => match us, hl with | [_, _], _ => rfl
  f__law_marks := fnAt_mk X G a16 l16 c16 q16 fun _ _ _ _ _ _ us hl => match us, hl with | [_, _, _], _ => rfl
  f__law_row := fnAt_mk X G a17 l17 c17 q17 fun _ _ _ _ _ _ us hl => match us, hl with | [_, _], _ => rfl
  f__law_two_periods := fnAt_mk X G a18 l18 c18 q18 fun _ _ _ _ _ _ us hl => match us, hl with | [_, _], _ => rfl
  f__law_end := fnAt_mk X G a19 l19 c19 q19 fun _ _ _ _ _ _ us hl => match us, hl with | [_, _], _ => rfl
  f_is_whole := fnAt_mk X G a20 l20 c20 q20 fun _ _ _ _ _ _ us hl => match us, hl with | [_], _ => rfl
  f_is_within := fnAt_mk X G a21 l21 c21 q21 fun _ _ _ _ _ _ us hl => match us, hl with | [_, _, _], _ => rfl
  f_is_tuple_of := fnAt_mk X G a22 l22 c22 q22 fun _ _ _ _ _ _ us hl => match us, hl with | [_, _], _ => rfl
  f_is_block := fnAt_mk X G a23 l23 c23 q23 fun _ _ _ _ _ _ us hl => match us, hl with | [_], _ => rfl
  f_need_row := fnAt_mk X G a24 l24 c24 q24 fun _ _ _ _ _ _ us hl => match us, hl with | [_], _ => rfl
  f_parting_within := fnAt_mk X G a25 l25 c25 q25 fun _ _ _ _ _ _ us hl => match us, hl with | [_, _, _, _, _], _ => rfl
  f_unlike_place := fnAt_mk X G a26 l26 c26 q26 fun _ _ _ _ _ _ us hl => match us, hl with | [_, _], _ => rfl
  f_first_unlike := fnAt_mk X G a27 l27 c27 q27 fun _ _ _ _ _ _ us hl => match us, hl with | [_, _], _ => rfl
  f_read_alike := fnAt_mk X G a28 l28 c28 q28 fun _ _ _ _ _ _ us hl => match us, hl with | [_, _], _ => rfl
  f_entries_of := fnAt_mk X G a29 l29 c29 q29 fun _ _ _ _ _ _ us hl => match us, hl with | [_], _ => rfl
  f_mark_there := fnAt_mk X G a30 l30 c30 q30 fun _ _ _ _ _ _ us hl => match us, hl with | [_, _], _ => rfl
  f_is_ahead := fnAt_mk X G a31 l31 c31 q31 fun _ _ _ _ _ _ us hl => match us, hl with | [_, _], _ => rfl
  f_blocks_turned := fnAt_mk X G a32 l32 c32 q32 fun _ _ _ _ _ _ us hl => match us, hl with | [_], _ => rfl
  f_common_end := fnAt_mk X G a33 l33 c33 q33 fun _ _ _ _ _ _ us hl => match us, hl with | [_, _], _ => rfl
  f__law_asked := fnAt_mk X G a34 l34 c34 q34 fun _ _ _ _ _ _ us hl => match us, hl with | [_, _], _ => rfl
  f__law_parts_late := fnAt_mk X G a35 l35 c35 q35 fun _ _ _ _ _ _ us hl => match us, hl with | [_], _ => rfl
  f__law_part_place := fnAt_mk X G a36 l36 c36 q36 fun _ _ _ _ _ _ us hl => match us, hl with | [_, _], _ => rfl
  f__law_due := fnAt_mk X G a37 l37 c37 q37 fun _ _ _ _ _ _ us hl => match us, hl with | [_, _], _ => rfl
  f__law_flat := fnAt_mk X G a38 l38 c38 q38 fun _ _ _ _ _ _ us hl => match us, hl with | [_], _ => rfl
  f_law := fnAt_mk X G a39 l39 c39 q39 fun _ _ _ _ _ _ us hl => match us, hl with | [_], _ => rfl
  b_all := PySem.W.mg_none_of X G z_all
  b_bool := PySem.W.mg_none_of X G z_bool
  b_enumerate := PySem.W.mg_none_of X G z_enumerate
  b_int := PySem.W.mg_none_of X G z_int
  b_isinstance := PySem.W.mg_none_of X G z_isinstance
  b_len := PySem.W.mg_none_of X G z_len
  b_list := PySem.W.mg_none_of X G z_list
  b_max := PySem.W.mg_none_of X G z_max
  b_min := PySem.W.mg_none_of X G z_min
  b_range := PySem.W.mg_none_of X G z_range
  b_repr := PySem.W.mg_none_of X G z_repr
  b_sum := PySem.W.mg_none_of X G z_sum
  b_tuple := PySem.W.mg_none_of X G z_tuple
  c_MOST_BLOCKS := ⟨_, PySem.W.mg_of X G v_MOST_BLOCKS⟩
  c_MOST_MARK := ⟨_, PySem.W.mg_of X G v_MOST_MARK⟩
  c_MOST_OF_BLOCK := ⟨_, PySem.W.mg_of X G v_MOST_OF_BLOCK⟩
  c_MOST_TIMES := ⟨_, PySem.W.mg_of X G v_MOST_TIMES⟩
end Wk
open PySem PySem.W PyProof.Rows
set_option maxHeartbeats 0 in
theorem PySem.Challenge.cw_pointingreads_k04_whole_rows_read_alike_holds : PySem.Challenge.rw_pointingreads_k04_whole_rows_read_alike.Holds := by
  w_on; o_law; k_head; (case hw => w_witness2)
  k_fill
  refine Dl.walk_D (l := PySem.Challenge.rw_pointingreads_k04_whole_rows_read_alike) (n := 63) (lv := 9) (Φ := Wk.F_law) rfl (by decide) rfl rfl ⟨rfl, by decide, by decide⟩ (fun w h Y => PySem.W.kIn_of Y) ?F ?law
  case law => exact fun ns h1 h2 => Wk.law_holds ns h1 h2
  case F =>
    intro w mg h KX G base _ _
    refine' Wk.ok_law (Wk.fx_mk KX G ?a0 ?l0 ?c0 ?q0 ?a1 ?l1 ?c1 ?q1 ?a2 ?l2 ?c2 ?q2 ?a3 ?l3 ?c3 ?q3 ?a4 ?l4 ?c4 ?q4 ?a5 ?l5 ?c5 ?q5 ?a6 ?l6 ?c6 ?q6 ?a7 ?l7 ?c7 ?q7 ?a8 ?l8 ?c8 ?q8 ?a9 ?l9 ?c9 ?q9 ?a10 ?l10 ?c10 ?q10 ?a11 ?l11 ?c11 ?q11 ?a12 ?l12 ?c12 ?q12 ?a13 ?l13 ?c13 ?q13 ?a14 ?l14 ?c14 ?q14 ?a15 ?l15 ?c15 ?q15 ?a16 ?l16 ?c16 ?q16 ?a17 ?l17 ?c17 ?q17 ?a18 ?l18 ?c18 ?q18 ?a19 ?l19 ?c19 ?q19 ?a20 ?l20 ?c20 ?q20 ?a21 ?l21 ?c21 ?q21 ?a22 ?l22 ?c22 ?q22 ?a23 ?l23 ?c23 ?q23 ?a24 ?l24 ?c24 ?q24 ?a25 ?l25 ?c25 ?q25 ?a26 ?l26 ?c26 ?q26 ?a27 ?l27 ?c27 ?q27 ?a28 ?l28 ?c28 ?q28 ?a29 ?l29 ?c29 ?q29 ?a30 ?l30 ?c30 ?q30 ?a31 ?l31 ?c31 ?q31 ?a32 ?l32 ?c32 ?q32 ?a33 ?l33 ?c33 ?q33 ?a34 ?l34 ?c34 ?q34 ?a35 ?l35 ?c35 ?q35 ?a36 ?l36 ?c36 ?q36 ?a37 ?l37 ?c37 ?q37 ?a38 ?l38 ?c38 ?q38 ?a39 ?l39 ?c39 ?q39 ?z_all ?z_bool ?z_enumerate ?z_int ?z_isinstance ?z_len ?z_list ?z_max ?z_min ?z_range ?z_repr ?z_sum ?z_tuple ?v_MOST_BLOCKS ?v_MOST_MARK ?v_MOST_OF_BLOCK ?v_MOST_TIMES)
    (case a0 => k_is); (case l0 => k_is); (case c0 => k_is); (case q0 => k_is); (case a1 => k_is); (case l1 => k_is); (case c1 => k_is); (case q1 => k_is)
    (case a2 => k_is); (case l2 => k_is); (case c2 => k_is); (case q2 => k_is); (case a3 => k_is); (case l3 => k_is); (case c3 => k_is); (case q3 => k_is)
    (case a4 => k_is); (case l4 => k_is); (case c4 => k_is); (case q4 => k_is); (case a5 => k_is); (case l5 => k_is); (case c5 => k_is); (case q5 => k_is)
    (case a6 => k_is); (case l6 => k_is); (case c6 => k_is); (case q6 => k_is); (case a7 => k_is); (case l7 => k_is); (case c7 => k_is); (case q7 => k_is)
    (case a8 => k_is); (case l8 => k_is); (case c8 => k_is); (case q8 => k_is); (case a9 => k_is); (case l9 => k_is); (case c9 => k_is); (case q9 => k_is)
    (case a10 => k_is); (case l10 => k_is); (case c10 => k_is); (case q10 => k_is); (case a11 => k_is); (case l11 => k_is); (case c11 => k_is); (case q11 => k_is)
    (case a12 => k_is); (case l12 => k_is); (case c12 => k_is); (case q12 => k_is); (case a13 => k_is); (case l13 => k_is); (case c13 => k_is); (case q13 => k_is)
    (case a14 => k_is); (case l14 => k_is); (case c14 => k_is); (case q14 => k_is); (case a15 => k_is); (case l15 => k_is); (case c15 => k_is); (case q15 => k_is)
    (case a16 => k_is); (case l16 => k_is); (case c16 => k_is); (case q16 => k_is); (case a17 => k_is); (case l17 => k_is); (case c17 => k_is); (case q17 => k_is)
    (case a18 => k_is); (case l18 => k_is); (case c18 => k_is); (case q18 => k_is); (case a19 => k_is); (case l19 => k_is); (case c19 => k_is); (case q19 => k_is)
    (case a20 => k_is); (case l20 => k_is); (case c20 => k_is); (case q20 => k_is); (case a21 => k_is); (case l21 => k_is); (case c21 => k_is); (case q21 => k_is)
    (case a22 => k_is); (case l22 => k_is); (case c22 => k_is); (case q22 => k_is); (case a23 => k_is); (case l23 => k_is); (case c23 => k_is); (case q23 => k_is)
    (case a24 => k_is); (case l24 => k_is); (case c24 => k_is); (case q24 => k_is); (case a25 => k_is); (case l25 => k_is); (case c25 => k_is); (case q25 => k_is)
    (case a26 => k_is); (case l26 => k_is); (case c26 => k_is); (case q26 => k_is); (case a27 => k_is); (case l27 => k_is); (case c27 => k_is); (case q27 => k_is)
    (case a28 => k_is); (case l28 => k_is); (case c28 => k_is); (case q28 => k_is); (case a29 => k_is); (case l29 => k_is); (case c29 => k_is); (case q29 => k_is)
    (case a30 => k_is); (case l30 => k_is); (case c30 => k_is); (case q30 => k_is); (case a31 => k_is); (case l31 => k_is); (case c31 => k_is); (case q31 => k_is)
    (case a32 => k_is); (case l32 => k_is); (case c32 => k_is); (case q32 => k_is); (case a33 => k_is); (case l33 => k_is); (case c33 => k_is); (case q33 => k_is)
    (case a34 => k_is); (case l34 => k_is); (case c34 => k_is); (case q34 => k_is); (case a35 => k_is); (case l35 => k_is); (case c35 => k_is); (case q35 => k_is)
    (case a36 => k_is); (case l36 => k_is); (case c36 => k_is); (case q36 => k_is); (case a37 => k_is); (case l37 => k_is); (case c37 => k_is); (case q37 => k_is)
    (case a38 => k_is); (case l38 => k_is); (case c38 => k_is); (case q38 => k_is); (case a39 => k_is); (case l39 => k_is); (case c39 => k_is); (case q39 => k_is)
    (case z_all => k_is); (case z_bool => k_is); (case z_enumerate => k_is); (case z_int => k_is); (case z_isinstance => k_is); (case z_len => k_is); (case z_list => k_is); (case z_max => k_is)
    (case z_min => k_is); (case z_range => k_is); (case z_repr => k_is); (case z_sum => k_is); (case z_tuple => k_is); (case v_MOST_BLOCKS => k_is); (case v_MOST_MARK => k_is); (case v_MOST_OF_BLOCK => k_is)
    (case v_MOST_TIMES => k_is)
