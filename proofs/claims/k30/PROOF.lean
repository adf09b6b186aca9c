import PyProof.Rows.All
import HandS.ForMost
import HandS.Exc
import HandS.WordsExc
import HandS.Lambda
import HandS.ExcOwn
import HandS.TupAny
import HandS.TupMul
import HandS.Style
import HandS.IsInst
import HandS.Wide
import KE.GoesNew
import HandS.Rev
import HandS.SortInts
import HandS.Small
import HandS.Conv
import HandS.ExcIs
import HandS.ExcField
import HandS.HotCalls
import KE.KExcIs
import HandS.EndTab
import HandS.NoneIn
import HandS.ExcInit
import HandS.Defaults
import KE.KRevIter
import HandS.More
import KE.KIndexWalk
import PySem.Challenge.RW_rowapart_k30_undone
set_option Elab.async false
set_option linter.all false
set_option maxRecDepth 100000
/-! the pure side: data, environments, outcomes -/
namespace S
open PySem L2

inductive D where
  | non | bl (b : Bool) | int (i : Int) | str (s : Str)
  | tup (xs : List D) | lst (xs : List D) | dct (kvs : List (Key × D)) | raw (a : Addr) (dx : Option Addr) (v : V) | scr (ns : List Int)
  deriving Inhabited

mutual
/-- no list and no dict within -/
def lf : D → Bool
  | .non => true | .bl _ => true | .int _ => true | .str _ => true
  | .tup xs => lfL xs
  | .lst _ => false | .dct _ => false | .raw _ _ _ => true | .scr _ => true
def lfL : List D → Bool
  | [] => true
  | x :: xs => lf x && lfL xs
end
mutual
def py : D → PyData
  | .non => .none | .bl b => .bool b | .int i => .int i | .str s => .str s
  | .tup xs => .tuple (pyL xs) | .lst xs => .list (pyL xs)
  | .dct _ => .dict [] | .raw _ _ _ => .dict [] | .scr _ => .dict []
def pyL : List D → List PyData
  | [] => []
  | x :: xs => py x :: pyL xs
end

inductive Rs (α : Type) where
  | ok (a : α) | ex (n : Str) (a : Option D) | no
abbrev RD := Rs (Bool × D)
abbrev Env := List (Option (Bool × D))
def Rs.bind {α β : Type} (r : Rs α) (f : α → Rs β) : Rs β := match r with
  | .ok a => f a
  | .ex n a => .ex n a
  | .no => .no
@[simp] theorem Rs.bind_ok {α β : Type} (a : α) (f : α → Rs β) : (Rs.ok a).bind f = f a := (rfl)
@[simp] theorem Rs.bind_ex {α β : Type} (n : Str) (a : Option D) (f : α → Rs β) : (Rs.ex n a).bind f = .ex n a := (rfl)
@[simp] theorem Rs.bind_no {α β : Type} (f : α → Rs β) : (Rs.no).bind f = .no := (rfl)
inductive Out where
  | nx (e : Env) | bk (e : Env) | ct (e : Env) | rt (fr : Bool) (d : D) | ex (n : Str) (a : Option D) | no

/-! ### representation -/
/-- a list of the written part -/
def KL (K : PySem.W.Frag) (a : Addr) (xs : List V) : Prop :=
  ∃ (o : Obj) (its : Array Value) (n : Nat), K.lookup a = some o ∧ o.cls = .type "list" ∧ o.dict = none ∧ o.data = .seq its n ∧ its.size ≤ sizeLine ∧ Vals xs its.toList
/-- the script: a list of ints that nobody changes -/
def FrzL (K : PySem.W.Frag) (H : Hp) (a : Addr) (ns : List Int) : Prop := (∃ o, H a = some (.frz o (.lst (ns.map V.int)))) ∨ KL K a (ns.map V.int)
theorem FrzL.sql {K : PySem.W.Frag} {H : Hp} {a : Addr} {ns : List Int} (h : FrzL K H a ns) : SqL K H a (ns.map V.int) := by
  rcases h with ⟨o, h⟩ | h
  · exact .inl (.inr ⟨o, h⟩)
  · exact .inr h
/-- a list, a dict -/
def LD : HO → Prop
  | .lst _ => True
  | .dK _ => True
  | _ => False
abbrev NT (u : HO) : Prop := ∀ ps, u ≠ HO.tbl ps
/-- what is not changed by anybody stays -/
def Firm (H H' : Hp) : Prop := ∀ a u, ¬ LD u → NT u → H a = some u → H' a = some u
theorem Firm.t {K : PySem.W.Frag} {H H' : Hp} {a : Addr} {xs : List V} (e : Firm H H') (h : SqT K H a xs) : SqT K H' a xs := by
  rcases h with (h | ⟨o, h⟩) | h
  · exact .inl (.inl (e _ _ (fun z => z) nofun h))
  · exact .inl (.inr ⟨o, e _ _ (fun z => z) nofun h⟩)
  · exact .inr h
theorem Firm.f {K : PySem.W.Frag} {H H' : Hp} {a : Addr} {ns : List Int} (e : Firm H H') (h : FrzL K H a ns) : FrzL K H' a ns := by
  rcases h with ⟨o, h⟩ | h
  · exact .inl ⟨o, e _ _ (fun z => z) nofun h⟩
  · exact .inr h
/-- the written part, the tables of code objects with the names that they hold -/
structure KT where
  K : PySem.W.Frag
  T : List (Addr × Str)
instance : CoeOut KT PySem.W.Frag := ⟨KT.K⟩
/-- nothing but a table stands there -/
def Fr (H : Hp) (a : Addr) : Prop := ∀ u, NT u → H a ≠ some u
/-- something stands there, no table -/
def Sd (H : Hp) (a : Addr) : Prop := ∃ u, NT u ∧ H a = some u
theorem fr_none {H : Hp} {a : Addr} (h : H a = none) : Fr H a := fun u _ e => by rw [h] at e; cases e
theorem Fr.not {H : Hp} {a : Addr} (h : Fr H a) (s : Sd H a) : False := let ⟨u, n, e⟩ := s; h u n e
theorem fr_of {H : Hp} {a : Addr} (h : ¬ Sd H a) : Fr H a := fun u n e => h ⟨u, n, e⟩
/-- all stays; a table may grow -/
structure Sm (T : List (Addr × Str)) (H H' : Hp) : Prop where
  keep : ∀ b o, NT o → H b = some o → H' b = some o
  tabs : LamX.Tabs T H → LamX.Tabs T H'
section
variable {T : List (Addr × Str)} {H H' H'' : Hp}
theorem Sm.refl (H : Hp) : Sm T H H := ⟨fun _ _ _ h => h, fun h => h⟩
theorem Sm.trans (a : Sm T H H') (b : Sm T H' H'') : Sm T H H'' := ⟨fun x o n h => b.keep x o n (a.keep x o n h), fun h => b.tabs (a.tabs h)⟩
theorem Sm.free {a : Addr} (e : Sm T H H') (h : Fr H' a) : Fr H a := fun u n q => h u n (e.keep a u n q)
theorem Sm.there {a : Addr} (e : Sm T H H') (h : Sd H a) : Sd H' a := let ⟨u, n, q⟩ := h; ⟨u, n, e.keep a u n q⟩
theorem sm_of (e : Same H H') : Sm T H H' := ⟨fun b o _ h => e b o h, fun h p m => (h p m).ext e⟩
/-- a list or a dict is changed, or goes: the tables stay -/
theorem tabs_but {p : Addr → Prop} (hn : ∀ a, ¬ p a → H' a = H a) (hp : ∀ a u, p a → H a = some u → LD u) (t : LamX.Tabs T H) : LamX.Tabs T H' := fun q m => by
  have no : ∀ a u, ¬ LD u → H a = some u → H' a = some u := fun a u n h => by
    rw [hn a (fun z => n (hp a u z h))]; exact h
  obtain ⟨ps, h1, h2, h3⟩ := t q m
  refine ⟨ps, no _ _ (fun z => z) h1, h2, fun pos cv hc => ?_⟩
  obtain ⟨c, e1, e2⟩ := h3 pos cv hc
  exact ⟨c, e1, no _ _ (fun z => z) e2⟩
theorem tabs_upd {a : Addr} {u o : HO} (h : H a = some u) (l : LD u) (t : LamX.Tabs T H) : LamX.Tabs T (upd H a o) :=
  tabs_but (p := fun b => b = a) (fun b n => upd_ne n) (fun b u' e h' => by subst e; rw [h] at h'; cases h'; exact l) t
theorem nt_lst {xs : List V} : NT (.lst xs) := fun _ z => nomatch z
theorem nt_dK {xs : List (Key × V)} : NT (.dK xs) := fun _ z => nomatch z
theorem nt_tup {xs : List V} : NT (.tup xs) := fun _ z => nomatch z
theorem nt_frz {o : Obj} {u : HO} : NT (.frz o u) := fun _ z => nomatch z
end
theorem firm_same {T : List (Addr × Str)} {H H' : Hp} (e : Sm T H H') : Firm H H' := fun _ _ _ n h => e.keep _ _ n h

mutual
inductive Rp (K : PySem.W.Frag) (H : Hp) (O : Addr → Prop) : V → D → Prop
  | non : Rp K H O .non .non
  | bl (b : Bool) : Rp K H O (.bl b) (.bl b)
  | int (i : Int) : Rp K H O (.int i) (.int i)
  | str (s : Str) : Rp K H O (.str s) (.str s)
  | raw {a : Addr} {dx : Option Addr} {v : V} : (∀ dd, dx = some dd → H dd = some (.xd [("at", v)])) → Rp K H O (.ref a) (.raw a dx v)
  | scr {a : Addr} {ns : List Int} : FrzL K H a ns → Rp K H O (.ref a) (.scr ns)
  | lst {a : Addr} {xs : List V} {ds : List D} : H a = some (.lst xs) → ¬ O a → RpL K H O xs ds → Rp K H O (.ref a) (.lst ds)
  | tup {a : Addr} {xs : List V} {ds : List D} : SqT K H a xs → RpL K H O xs ds → Rp K H O (.ref a) (.tup ds)
  | dct {a : Addr} {kvs : List (Key × V)} {ds : List (Key × D)} : H a = some (.dK kvs) → ¬ O a → RpK K H O kvs ds → Rp K H O (.ref a) (.dct ds)
inductive RpL (K : PySem.W.Frag) (H : Hp) (O : Addr → Prop) : List V → List D → Prop
  | nil : RpL K H O [] []
  | cons {v : V} {vs : List V} {d : D} {ds : List D} : Rp K H O v d → RpL K H O vs ds → RpL K H O (v :: vs) (d :: ds)
inductive RpK (K : PySem.W.Frag) (H : Hp) (O : Addr → Prop) : List (Key × V) → List (Key × D) → Prop
  | nil : RpK K H O [] []
  | cons {k : Key} {v : V} {vs : List (Key × V)} {d : D} {ds : List (Key × D)} : Rp K H O v d → RpK K H O vs ds → RpK K H O ((k, v) :: vs) ((k, d) :: ds)
end

section
variable {K : PySem.W.Frag} {H H' : Hp} {O O' : Addr → Prop}
/-! the general carrying over: the lists that are not of O stay, what is firm stays; what is newly barred wasn't there -/
mutual
theorem Rp.carry (hO : ∀ a, O' a → O a ∨ Fr H a) (hd : ∀ a u, ¬ O a → NT u → H a = some u → H' a = some u) (hf : Firm H H') :
    ∀ {d : D} {v : V}, Rp K H O v d → Rp K H' O' v d
  | .non, _, .non => .non
  | .bl _, _, .bl _ => .bl _
  | .int _, _, .int _ => .int _
  | .str _, _, .str _ => .str _
  | .raw _ _ _, _, .raw h => .raw fun dd e => hf _ _ (fun z => z) nofun (h dd e)
  | .scr _, _, .scr h => .scr (hf.f h)
  | .lst ds, _, .lst h h2 hs => .lst (hd _ _ h2 nt_lst h) (fun z => (hO _ z).elim h2 (fun e => e _ (by first | exact nt_lst | exact nt_dK) h)) (RpL.carry hO hd hf hs)
  | .tup ds, _, .tup h hs => .tup (hf.t h) (RpL.carry hO hd hf hs)
  | .dct ds, _, .dct h h2 hs => .dct (hd _ _ h2 nt_dK h) (fun z => (hO _ z).elim h2 (fun e => e _ (by first | exact nt_lst | exact nt_dK) h)) (RpK.carry hO hd hf hs)
theorem RpL.carry (hO : ∀ a, O' a → O a ∨ Fr H a) (hd : ∀ a u, ¬ O a → NT u → H a = some u → H' a = some u) (hf : Firm H H') :
    ∀ {ds : List D} {vs : List V}, RpL K H O vs ds → RpL K H' O' vs ds
  | [], _, .nil => .nil
  | _ :: _, _, .cons h hs => .cons (Rp.carry hO hd hf h) (RpL.carry hO hd hf hs)
theorem RpK.carry (hO : ∀ a, O' a → O a ∨ Fr H a) (hd : ∀ a u, ¬ O a → NT u → H a = some u → H' a = some u) (hf : Firm H H') :
    ∀ {ds : List (Key × D)} {vs : List (Key × V)}, RpK K H O vs ds → RpK K H' O' vs ds
  | [], _, .nil => .nil
  | _ :: _, _, .cons h hs => .cons (Rp.carry hO hd hf h) (RpK.carry hO hd hf hs)
end
theorem Rp.same {v : V} {d : D} {T : List (Addr × Str)} (e : Sm T H H') (h : Rp K H O v d) : Rp K H' O v d := h.carry (fun _ z => .inl z) (fun _ _ _ n r => e.keep _ _ n r) (firm_same e)
theorem RpL.same {v : List V} {d : List D} {T : List (Addr × Str)} (e : Sm T H H') (h : RpL K H O v d) : RpL K H' O v d := h.carry (fun _ z => .inl z) (fun _ _ _ n r => e.keep _ _ n r) (firm_same e)
theorem RpK.same {v : List (Key × V)} {d : List (Key × D)} {T : List (Addr × Str)} (e : Sm T H H') (h : RpK K H O v d) : RpK K H' O v d := h.carry (fun _ z => .inl z) (fun _ _ _ n r => e.keep _ _ n r) (firm_same e)
theorem Rp.mono {v : V} {d : D} (e : ∀ a, O' a → O a ∨ Fr H a) (h : Rp K H O v d) : Rp K H O' v d := h.carry e (fun _ _ _ _ r => r) (fun _ _ _ _ r => r)
theorem RpL.mono {v : List V} {d : List D} (e : ∀ a, O' a → O a ∨ Fr H a) (h : RpL K H O v d) : RpL K H O' v d := h.carry e (fun _ _ _ _ r => r) (fun _ _ _ _ r => r)
theorem RpK.mono {v : List (Key × V)} {d : List (Key × D)} (e : ∀ a, O' a → O a ∨ Fr H a) (h : RpK K H O v d) : RpK K H O' v d := h.carry e (fun _ _ _ _ r => r) (fun _ _ _ _ r => r)
/-- a list or a dict that is barred is changed -/
theorem upd_keep {a0 : Addr} {o0 o1 : HO} (h0 : H a0 = some o0) (hm : LD o0) : (∀ a u, ¬ (a = a0) → H a = some u → (upd H a0 o1) a = some u) ∧ Firm H (upd H a0 o1) :=
  ⟨fun a u n r => by rw [upd_ne n]; exact r, fun a u n _ r => by rw [upd_ne (fun z => by subst z; rw [r] at h0; cases h0; exact n hm)]; exact r⟩
theorem Rp.updO {v : V} {d : D} {a0 : Addr} {o0 o1 : HO} (hO : O a0) (h0 : H a0 = some o0) (hm : LD o0) (h : Rp K H O v d) : Rp K (upd H a0 o1) O v d := by
  obtain ⟨k2, k3⟩ := upd_keep (o1 := o1) h0 hm
  exact h.carry (fun _ z => .inl z) (fun a u n _ r => k2 a u (fun z => n (z ▸ hO)) r) k3
/-! without lists it doesn't matter what is barred -/
mutual
theorem Rp.free : ∀ {d : D} {v : V}, lf d = true → Rp K H O v d → Rp K H O' v d
  | .scr _, _, _, .scr h => .scr h
  | .non, _, _, .non => .non
  | .bl _, _, _, .bl _ => .bl _
  | .int _, _, _, .int _ => .int _
  | .str _, _, _, .str _ => .str _
  | .raw _ _ _, _, _, .raw h => .raw h
  | .lst ds, _, e, _ => by simp [lf] at e
  | .dct ds, _, e, _ => by simp [lf] at e
  | .tup ds, _, e, .tup h hs => .tup h (RpL.free (by simpa [lf] using e) hs)
theorem RpL.free : ∀ {ds : List D} {vs : List V}, lfL ds = true → RpL K H O vs ds → RpL K H O' vs ds
  | [], _, _, .nil => .nil
  | _ :: _, _, e, .cons h hs => by
    have e' := Bool.and_eq_true_iff.mp (show (lf _ && lfL _) = true from by simpa [lfL] using e)
    exact .cons (Rp.free e'.1 h) (RpL.free e'.2 hs)
end
theorem RpL.len : ∀ {ds : List D} {vs : List V}, RpL K H O vs ds → vs.length = ds.length
  | [], _, .nil => rfl
  | _ :: _, _, .cons _ hs => congrArg (· + 1) (RpL.len hs)
theorem RpL.get : ∀ {ds : List D} {vs : List V} {i : Nat} {d : D}, RpL K H O vs ds → ds[i]? = some d → ∃ v, vs[i]? = some v ∧ Rp K H O v d
  | [], _, _, _, .nil, e => by simp at e
  | _ :: _, _, 0, _, .cons h _, e => by simp at e; subst e; exact ⟨_, rfl, h⟩
  | _ :: _, _, i + 1, d, .cons _ hs, e => by
    obtain ⟨v, h1, h2⟩ := RpL.get (i := i) (d := d) hs (by simpa using e)
    exact ⟨v, by simpa using h1, h2⟩
theorem RpL.getV : ∀ {ds : List D} {vs : List V} {i : Nat} {v : V}, RpL K H O vs ds → vs[i]? = some v → ∃ d, ds[i]? = some d ∧ Rp K H O v d
  | [], _, _, _, .nil, e => by simp at e
  | _ :: _, _, 0, _, .cons h _, e => by simp at e; subst e; exact ⟨_, rfl, h⟩
  | _ :: _, _, i + 1, v, .cons _ hs, e => by
    obtain ⟨d, h1, h2⟩ := RpL.getV (i := i) (v := v) hs (by simpa using e)
    exact ⟨d, by simpa using h1, h2⟩
theorem RpL.append : ∀ {ds es : List D} {vs us : List V}, RpL K H O vs ds → RpL K H O us es → RpL K H O (vs ++ us) (ds ++ es)
  | [], _, _, _, .nil, q => q
  | _ :: _, _, _, _, .cons h hs, q => .cons h (RpL.append hs q)
theorem RpL.take : ∀ {ds : List D} {vs : List V} (n : Nat), RpL K H O vs ds → RpL K H O (vs.take n) (ds.take n)
  | _, _, 0, _ => by simpa using RpL.nil
  | [], _, _ + 1, .nil => .nil
  | _ :: _, _, n + 1, .cons h hs => .cons h (RpL.take n hs)
theorem RpL.drop : ∀ {ds : List D} {vs : List V} (n : Nat), RpL K H O vs ds → RpL K H O (vs.drop n) (ds.drop n)
  | _, _, 0, h => by simpa using h
  | [], _, _ + 1, .nil => .nil
  | _ :: _, _, n + 1, .cons _ hs => RpL.drop n hs
theorem RpL.set {d : D} {v : V} (h : Rp K H O v d) : ∀ {ds : List D} {vs : List V} (n : Nat), RpL K H O vs ds → RpL K H O (vs.set n v) (ds.set n d)
  | [], _, _, .nil => .nil
  | _ :: _, _, 0, .cons _ hs => .cons h hs
  | _ :: _, _, n + 1, .cons h0 hs => .cons h0 (RpL.set h n hs)
theorem RpL.rev : ∀ {ds : List D} {vs : List V}, RpL K H O vs ds → RpL K H O vs.reverse ds.reverse
  | [], _, .nil => .nil
  | _ :: _, _, .cons h hs => by
    rw [List.reverse_cons, List.reverse_cons]
    exact (RpL.rev hs).append (.cons h .nil)
theorem RpL.rep {ds : List D} {vs : List V} (h : RpL K H O vs ds) : ∀ n : Nat, RpL K H O (List.replicate n vs).flatten (List.replicate n ds).flatten
  | 0 => by simpa using RpL.nil
  | n + 1 => by
    rw [List.replicate_succ, List.flatten_cons, List.replicate_succ, List.flatten_cons]
    exact h.append (RpL.rep h n)
theorem RpL.ints : ∀ (ns : List Int), RpL K H O (ns.map V.int) (ns.map D.int)
  | [] => .nil
  | n :: ns => .cons (.int n) (RpL.ints ns)
theorem RpL.ints_of : ∀ {ns : List Int} {vs : List V}, RpL K H O vs (ns.map D.int) → vs = ns.map V.int
  | [], _, .nil => rfl
  | n :: ns, _, h => by
    cases h with
    | cons h hs =>
      cases h
      rw [RpL.ints_of hs]
      rfl
end
mutual
/-- a value of plain data, for == -/
def plain : D → Bool
  | .tup xs => plainL xs | .lst xs => plainL xs
  | .dct _ => false | .raw _ _ _ => false | .scr _ => false
  | .non => true | .bl _ => true | .int _ => true | .str _ => true
def plainL : List D → Bool
  | [] => true
  | x :: xs => plain x && plainL xs
end
section
variable {K : PySem.W.Frag} {H H' : Hp} {O O' : Addr → Prop}
mutual
theorem Rp.dp : ∀ {d : D} {v : V}, plain d = true → Rp K H O v d → Dp K H v (py d)
  | .non, _, _, .non => by simpa [py] using Dp.non
  | .bl b, _, _, .bl _ => by simpa [py] using Dp.bl b
  | .int i, _, _, .int _ => by simpa [py] using Dp.int i
  | .str s, _, _, .str _ => by simpa [py] using Dp.str s
  | .raw _ _ _, _, e, _ => by simp [plain] at e
  | .dct _, _, e, _ => by simp [plain] at e
  | .scr _, _, e, _ => by simp [plain] at e
  | .lst ds, _, e, .lst h _ hs => by
    simp only [py]
    exact .lst (SqL.of h) (RpL.dp (by simpa [plain] using e) hs)
  | .tup ds, _, e, .tup h hs => by
    simp only [py]
    exact .tup h (RpL.dp (by simpa [plain] using e) hs)
theorem RpL.dp : ∀ {ds : List D} {vs : List V}, plainL ds = true → RpL K H O vs ds → DpAll K H vs (pyL ds)
  | [], _, _, .nil => by simpa [pyL] using DpAll.nil
  | _ :: _, _, e, .cons h hs => by
    have e' := Bool.and_eq_true_iff.mp (show (plain _ && plainL _) = true from by simpa [plainL] using e)
    simp only [pyL]
    exact .cons (Rp.dp e'.1 h) (RpL.dp e'.2 hs)
end
end

/-! ### trees of lists that stand by themselves -/
mutual
inductive Tr (K : PySem.W.Frag) (H : Hp) : List Addr → V → D → Prop
  | non : Tr K H [] .non .non
  | bl (b : Bool) : Tr K H [] (.bl b) (.bl b)
  | int (i : Int) : Tr K H [] (.int i) (.int i)
  | str (s : Str) : Tr K H [] (.str s) (.str s)
  | raw {a : Addr} {dx : Option Addr} {v : V} : (∀ dd, dx = some dd → H dd = some (.xd [("at", v)])) → Tr K H [] (.ref a) (.raw a dx v)
  | scr {a : Addr} {ns : List Int} : FrzL K H a ns → Tr K H [] (.ref a) (.scr ns)
  | lst {F : List Addr} {a : Addr} {xs : List V} {ds : List D} : H a = some (.lst xs) → TrL K H F xs ds → a ∉ F → Tr K H (a :: F) (.ref a) (.lst ds)
  | tup {F : List Addr} {a : Addr} {xs : List V} {ds : List D} : SqT K H a xs → TrL K H F xs ds → Tr K H F (.ref a) (.tup ds)
  | dct {F : List Addr} {a : Addr} {kvs : List (Key × V)} {ds : List (Key × D)} : H a = some (.dK kvs) → TrK K H F kvs ds → a ∉ F → Tr K H (a :: F) (.ref a) (.dct ds)
inductive TrL (K : PySem.W.Frag) (H : Hp) : List Addr → List V → List D → Prop
  | nil : TrL K H [] [] []
  | cons {F G : List Addr} {v : V} {vs : List V} {d : D} {ds : List D} : Tr K H F v d → TrL K H G vs ds → (∀ a ∈ F, a ∉ G) → TrL K H (F ++ G) (v :: vs) (d :: ds)
inductive TrK (K : PySem.W.Frag) (H : Hp) : List Addr → List (Key × V) → List (Key × D) → Prop
  | nil : TrK K H [] [] []
  | cons {F G : List Addr} {k : Key} {v : V} {vs : List (Key × V)} {d : D} {ds : List (Key × D)} : Tr K H F v d → TrK K H G vs ds → (∀ a ∈ F, a ∉ G) → TrK K H (F ++ G) ((k, v) :: vs) ((k, d) :: ds)
end
section
variable {K : PySem.W.Frag} {H H' : Hp} {O O' : Addr → Prop}
/-! what holds the tree stays -/
mutual
theorem Tr.carry : ∀ {d : D} {F : List Addr} {v : V}, (∀ a ∈ F, ∀ u, NT u → H a = some u → H' a = some u) → Firm H H' → Tr K H F v d → Tr K H' F v d
  | .non, _, _, _, _, .non => .non
  | .bl _, _, _, _, _, .bl _ => .bl _
  | .int _, _, _, _, _, .int _ => .int _
  | .str _, _, _, _, _, .str _ => .str _
  | .raw _ _ _, _, _, _, ht, .raw h => .raw fun dd e => ht _ _ (fun z => z) nofun (h dd e)
  | .scr _, _, _, _, ht, .scr h => .scr (ht.f h)
  | .lst _, _, _, hF, ht, .lst h hs hn => .lst (hF _ List.mem_cons_self _ nt_lst h) (TrL.carry (fun a m => hF a (List.mem_cons_of_mem _ m)) ht hs) hn
  | .tup _, _, _, hF, ht, .tup h hs => .tup (ht.t h) (TrL.carry hF ht hs)
  | .dct _, _, _, hF, ht, .dct h hs hn => .dct (hF _ List.mem_cons_self _ nt_dK h) (TrK.carry (fun a m => hF a (List.mem_cons_of_mem _ m)) ht hs) hn
theorem TrL.carry : ∀ {ds : List D} {F : List Addr} {vs : List V}, (∀ a ∈ F, ∀ u, NT u → H a = some u → H' a = some u) → Firm H H' → TrL K H F vs ds → TrL K H' F vs ds
  | [], _, _, _, _, .nil => .nil
  | _ :: _, _, _, hF, ht, .cons h hs hd => .cons (Tr.carry (fun a m => hF a (List.mem_append_left _ m)) ht h) (TrL.carry (fun a m => hF a (List.mem_append_right _ m)) ht hs) hd
theorem TrK.carry : ∀ {ds : List (Key × D)} {F : List Addr} {vs : List (Key × V)}, (∀ a ∈ F, ∀ u, NT u → H a = some u → H' a = some u) → Firm H H' → TrK K H F vs ds → TrK K H' F vs ds
  | [], _, _, _, _, .nil => .nil
  | _ :: _, _, _, hF, ht, .cons h hs hd => .cons (Tr.carry (fun a m => hF a (List.mem_append_left _ m)) ht h) (TrK.carry (fun a m => hF a (List.mem_append_right _ m)) ht hs) hd
end
theorem Tr.same {d : D} {F : List Addr} {v : V} {T : List (Addr × Str)} (e : Sm T H H') (h : Tr K H F v d) : Tr K H' F v d := h.carry (fun _ _ _ n r => e.keep _ _ n r) (firm_same e)
theorem TrL.same {d : List D} {F : List Addr} {v : List V} {T : List (Addr × Str)} (e : Sm T H H') (h : TrL K H F v d) : TrL K H' F v d := h.carry (fun _ _ _ n r => e.keep _ _ n r) (firm_same e)
theorem TrK.same {d : List (Key × D)} {F : List Addr} {v : List (Key × V)} {T : List (Addr × Str)} (e : Sm T H H') (h : TrK K H F v d) : TrK K H' F v d := h.carry (fun _ _ _ n r => e.keep _ _ n r) (firm_same e)
/-! what is in the tree stands -/
mutual
theorem Tr.mem : ∀ {d : D} {F : List Addr} {v : V}, Tr K H F v d → ∀ a ∈ F, ∃ u, H a = some u ∧ LD u
  | .non, _, _, .non => fun _ m => nomatch m
  | .bl _, _, _, .bl _ => fun _ m => nomatch m
  | .int _, _, _, .int _ => fun _ m => nomatch m
  | .str _, _, _, .str _ => fun _ m => nomatch m
  | .raw _ _ _, _, _, .raw _ => fun _ m => nomatch m
  | .scr _, _, _, .scr _ => fun _ m => nomatch m
  | .lst _, _, _, .lst h hs hn => fun a m => by
    rcases List.mem_cons.mp m with rfl | m
    · exact ⟨_, h, trivial⟩
    · exact TrL.mem hs a m
  | .tup _, _, _, .tup h hs => TrL.mem hs
  | .dct _, _, _, .dct h hs hn => fun a m => by
    rcases List.mem_cons.mp m with rfl | m
    · exact ⟨_, h, trivial⟩
    · exact TrK.mem hs a m
theorem TrL.mem : ∀ {ds : List D} {F : List Addr} {vs : List V}, TrL K H F vs ds → ∀ a ∈ F, ∃ u, H a = some u ∧ LD u
  | [], _, _, .nil => fun _ m => nomatch m
  | _ :: _, _, _, .cons h hs hd => fun a m => (List.mem_append.mp m).elim (Tr.mem h a) (TrL.mem hs a)
theorem TrK.mem : ∀ {ds : List (Key × D)} {F : List Addr} {vs : List (Key × V)}, TrK K H F vs ds → ∀ a ∈ F, ∃ u, H a = some u ∧ LD u
  | [], _, _, .nil => fun _ m => nomatch m
  | _ :: _, _, _, .cons h hs hd => fun a m => (List.mem_append.mp m).elim (Tr.mem h a) (TrK.mem hs a)
end
/-! a tree, looked at -/
mutual
theorem Tr.rp : ∀ {d : D} {F : List Addr} {v : V}, (∀ a ∈ F, ¬ O a) → Tr K H F v d → Rp K H O v d
  | .non, _, _, _, .non => .non
  | .bl _, _, _, _, .bl _ => .bl _
  | .int _, _, _, _, .int _ => .int _
  | .str _, _, _, _, .str _ => .str _
  | .raw _ _ _, _, _, _, .raw h => .raw h
  | .scr _, _, _, _, .scr h => .scr h
  | .lst _, _, _, hF, .lst h hs hn => .lst h (hF _ List.mem_cons_self) (TrL.rp (fun a m => hF a (List.mem_cons_of_mem _ m)) hs)
  | .tup _, _, _, hF, .tup h hs => .tup h (TrL.rp hF hs)
  | .dct _, _, _, hF, .dct h hs hn => .dct h (hF _ List.mem_cons_self) (TrK.rp (fun a m => hF a (List.mem_cons_of_mem _ m)) hs)
theorem TrL.rp : ∀ {ds : List D} {F : List Addr} {vs : List V}, (∀ a ∈ F, ¬ O a) → TrL K H F vs ds → RpL K H O vs ds
  | [], _, _, _, .nil => .nil
  | _ :: _, _, _, hF, .cons h hs hd => .cons (Tr.rp (fun a m => hF a (List.mem_append_left _ m)) h) (TrL.rp (fun a m => hF a (List.mem_append_right _ m)) hs)
theorem TrK.rp : ∀ {ds : List (Key × D)} {F : List Addr} {vs : List (Key × V)}, (∀ a ∈ F, ¬ O a) → TrK K H F vs ds → RpK K H O vs ds
  | [], _, _, _, .nil => .nil
  | _ :: _, _, _, hF, .cons h hs hd => .cons (Tr.rp (fun a m => hF a (List.mem_append_left _ m)) h) (TrK.rp (fun a m => hF a (List.mem_append_right _ m)) hs)
end
mutual
theorem Rp.tr : ∀ {d : D} {v : V}, lf d = true → Rp K H O v d → Tr K H [] v d
  | .scr _, _, _, .scr h => .scr h
  | .non, _, _, .non => .non
  | .bl _, _, _, .bl _ => .bl _
  | .int _, _, _, .int _ => .int _
  | .str _, _, _, .str _ => .str _
  | .raw _ _ _, _, _, .raw h => .raw h
  | .lst ds, _, e, _ => by simp [lf] at e
  | .dct ds, _, e, _ => by simp [lf] at e
  | .tup ds, _, e, .tup h hs => .tup h (RpL.tr (by simpa [lf] using e) hs)
theorem RpL.tr : ∀ {ds : List D} {vs : List V}, lfL ds = true → RpL K H O vs ds → TrL K H [] vs ds
  | [], _, _, .nil => .nil
  | _ :: _, _, e, .cons h hs => by
    have e' := Bool.and_eq_true_iff.mp (show (lf _ && lfL _) = true from by simpa [lfL] using e)
    exact TrL.cons (F := []) (G := []) (Rp.tr e'.1 h) (RpL.tr e'.2 hs) (fun _ m => nomatch m)
end
theorem Tr.free_nil : ∀ {d : D} {F : List Addr} {v : V}, lf d = true → Tr K H F v d → Tr K H [] v d := fun {d F v} e h => (h.rp (O := fun _ => False) (fun _ _ z => z)).tr e
theorem TrL.len {ds : List D} {F : List Addr} {vs : List V} (h : TrL K H F vs ds) : vs.length = ds.length := (h.rp (O := fun _ => False) (fun _ _ z => z)).len
theorem TrL.append : ∀ {ds es : List D} {F G : List Addr} {vs us : List V}, TrL K H F vs ds → TrL K H G us es → (∀ a ∈ F, a ∉ G) → TrL K H (F ++ G) (vs ++ us) (ds ++ es)
  | [], _, _, _, _, _, .nil, q, _ => q
  | _ :: _, _, _, _, _, _, .cons h hs hd, q, hn => by
    rw [List.append_assoc]
    refine .cons h (TrL.append hs q fun a m => hn a (List.mem_append_right _ m)) fun a m z => ?_
    rcases List.mem_append.mp z with z | z
    · exact hd a m z
    · exact hn a (List.mem_append_left _ m) z
theorem TrL.ints (ns : List Int) : TrL K H [] (ns.map V.int) (ns.map D.int) := (RpL.ints (O := fun _ => False) ns).tr (by induction ns with | nil => rfl | cons n ns ih => simpa [lfL, lf] using ih)
end
end S

/-! the environments, the judgements' readings, the rules -/
namespace S
open PySem L2

/-- written part, module's names, what is wanted of exceptions -/
structure Ctx where
  K : KT
  mg : Str → Option Value
  E : XK

def Nob : Addr → Prop := fun _ => False
def IsExc (t : Ctx) (n : Str) (a : Option D) (C : Addr) (dx : Option Addr) (H : Hp) : Prop :=
  t.mg n = some (.ref C) ∧ match a with
    | none => dx = none
    | some d => ∃ x v, dx = some x ∧ H x = some (.xd [("at", v)]) ∧ Rp t.K H Nob v d
def RV (K : PySem.W.Frag) (H H' : Hp) (O : Addr → Prop) (fr : Bool) (v : V) (d : D) : Prop :=
  match fr with
  | true => ∃ F, Tr K H' F v d ∧ ∀ a ∈ F, Fr H a
  | false => Rp K H' O v d
def Ow (O : Addr → Prop) (ow : Nat → List Addr) : Addr → Prop := fun a => O a ∨ ∃ i, a ∈ ow i
def OwX (O : Addr → Prop) (R : List Nat) (ow : Nat → List Addr) : Addr → Prop := fun a => O a ∨ ∃ i, i ∉ R ∧ a ∈ ow i

structure RE (K : KT) (B : Hp) (O : Addr → Prop) (ow : Nat → List Addr) (σ : L2.St) (H : Hp) (env : Env) : Prop where
  len : σ.length = env.length
  ext : Sm K.T B H
  tabs : LamX.Tabs K.T H
  dom : ∀ a, O a → Sd B a
  fz : ∀ (i : Nat) (d : D), env[i]? = some (some (false, d)) → ∃ v, σ[i]? = some (some v) ∧ Rp K H (Ow O ow) v d
  tr : ∀ (i : Nat) (d : D), env[i]? = some (some (true, d)) → ∃ v, σ[i]? = some (some v) ∧ Tr K H (ow i) v d
  own : ∀ (i : Nat) (a : Addr), a ∈ ow i → Fr B a ∧ ∃ u, H a = some u ∧ LD u
  inj : ∀ (i j : Nat) (a : Addr), a ∈ ow i → a ∈ ow j → i = j

def OD (O : Addr → Prop) (H : Hp) : Prop := ∀ a, O a → Sd H a

def Post (t : Ctx) (H : Hp) (O : Addr → Prop) (r : RD) (Q : VK) : Prop := match r with
  | .ok (fr, d) => ∀ v H', Sm t.K.T H H' → RV t.K H H' O fr v d → Q v H'
  | .ex n a => ∀ C dx H', Sm t.K.T H H' → IsExc t n a C dx H' → t.E (.ref C) dx H'
  | .no => False
def PostT (t : Ctx) (H : Hp) (r : Rs Bool) (Q : Bool → Hp → Prop) : Prop := match r with
  | .ok b => ∀ H', Sm t.K.T H H' → Q b H'
  | .ex n a => ∀ C dx H', Sm t.K.T H H' → IsExc t n a C dx H' → t.E (.ref C) dx H'
  | .no => False
def PostA (t : Ctx) (H : Hp) (O : Addr → Prop) (r : Rs (List D)) (Q : List V → Hp → Prop) : Prop := match r with
  | .ok ds => ∀ vs H', Sm t.K.T H H' → RpL t.K H' O vs ds → Q vs H'
  | .ex n a => ∀ C dx H', Sm t.K.T H H' → IsExc t n a C dx H' → t.E (.ref C) dx H'
  | .no => False
def eP (t : Ctx) (R : List Nat) (m : Env → RD) : TE := fun σ H Q => ∃ B O ow env, RE t.K B O ow σ H env ∧ Post t H (OwX O R ow) (m env) Q
def tP (t : Ctx) (m : Env → Rs Bool) : TT := fun σ H Q => ∃ B O ow env, RE t.K B O ow σ H env ∧ PostT t H (m env) Q
def aP (t : Ctx) (R : List Nat) (m : Env → Rs (List D)) : TA := fun σ H Q => ∃ B O ow env, RE t.K B O ow σ H env ∧ PostA t H (OwX O R ow) (m env) Q

section
variable {K : KT} {B H H' H'' : Hp} {O O' : Addr → Prop} {ow : Nat → List Addr} {σ : L2.St} {env : Env} {R R' : List Nat}
theorem mut_nt {u : HO} (h : LD u) : NT u := fun ps e => by subst e; exact h
theorem RE.same (re : RE K B O ow σ H env) (e : Sm K.T H H') : RE K B O ow σ H' env :=
  ⟨re.len, re.ext.trans e, e.tabs re.tabs, re.dom, fun i d h => let ⟨v, h1, h2⟩ := re.fz i d h; ⟨v, h1, h2.same e⟩, fun i d h => let ⟨v, h1, h2⟩ := re.tr i d h; ⟨v, h1, h2.same e⟩,
   fun i a h => let ⟨h1, u, h2, h3⟩ := re.own i a h; ⟨h1, u, e.keep _ _ (mut_nt h3) h2, h3⟩, re.inj⟩
theorem RE.od (re : RE K B O ow σ H env) : OD (Ow O ow) H := fun a h => by
  rcases h with h | ⟨i, h⟩
  · exact re.ext.there (re.dom a h)
  · obtain ⟨_, u, h2, h3⟩ := re.own i a h
    exact ⟨u, mut_nt h3, h2⟩
theorem owx_ow {a : Addr} (h : OwX O R ow a) : Ow O ow a := h.elim .inl fun ⟨i, _, h⟩ => .inr ⟨i, h⟩
theorem owx_nil {a : Addr} (h : Ow O ow a) : OwX O [] ow a := h.elim .inl fun ⟨i, h⟩ => .inr ⟨i, (fun z => nomatch z), h⟩
theorem RE.odx (re : RE K B O ow σ H env) : OD (OwX O R ow) H := fun a h => re.od a (owx_ow h)
theorem owx_l {a : Addr} (h : OwX O (R ++ R') ow a) : OwX O R ow a := h.elim .inl fun ⟨i, n, h⟩ => .inr ⟨i, fun z => n (List.mem_append_left _ z), h⟩
theorem owx_r {a : Addr} (h : OwX O (R ++ R') ow a) : OwX O R' ow a := h.elim .inl fun ⟨i, n, h⟩ => .inr ⟨i, fun z => n (List.mem_append_right _ z), h⟩
theorem RV.rp {fr : Bool} {v : V} {d : D} (hO : OD O H) (e : ∀ a, O' a → O a) (h : RV K H H' O fr v d) : Rp K H' O' v d := by
  cases fr with
  | true =>
    obtain ⟨F, h1, h2⟩ := h
    exact h1.rp fun a m z => (h2 a m).not (hO a (e a z))
  | false => exact Rp.mono (fun a z => .inl (e a z)) h
theorem RV.back {fr : Bool} {v : V} {d : D} (e : Sm K.T H H') (h : RV K H' H'' O fr v d) : RV K H H'' O fr v d := by
  cases fr with
  | true =>
    obtain ⟨F, h1, h2⟩ := h
    exact ⟨F, h1, fun a m => e.free (h2 a m)⟩
  | false => exact h
theorem RV.mono {fr : Bool} {v : V} {d : D} (e : ∀ a, O' a → O a) (h : RV K H H' O fr v d) : RV K H H' O' fr v d := by
  cases fr with
  | true => exact h
  | false => exact Rp.mono (fun a z => .inl (e a z)) h
theorem RV.same {fr : Bool} {v : V} {d : D} (e : Sm K.T H' H'') (h : RV K H H' O fr v d) : RV K H H'' O fr v d := by
  cases fr with
  | true => exact let ⟨F, h1, h2⟩ := h; ⟨F, h1.same e, h2⟩
  | false => exact Rp.same e h
theorem RV.of {v : V} {d : D} (h : Rp K H' O v d) : RV K H H' O false v d := h
end

section
variable {t : Ctx} {H H1 : Hp} {O : Addr → Prop} {α β : Type}
theorem Post.same {r : RD} {Q : VK} (e : Sm t.K.T H H1) (h : Post t H O r Q) : Post t H1 O r Q := by
  cases r with
  | ok a => obtain ⟨fr, d⟩ := a; exact fun v H' s rv => h v H' (e.trans s) (rv.back e)
  | ex n a => exact fun C dx H' s q => h C dx H' (e.trans s) q
  | no => exact h
theorem PostT.same {r : Rs Bool} {Q : Bool → Hp → Prop} (e : Sm t.K.T H H1) (h : PostT t H r Q) : PostT t H1 r Q := by
  cases r with
  | ok a => exact fun H' s => h H' (e.trans s)
  | ex n a => exact fun C dx H' s q => h C dx H' (e.trans s) q
  | no => exact h
theorem PostA.same {r : Rs (List D)} {Q : List V → Hp → Prop} (e : Sm t.K.T H H1) (h : PostA t H O r Q) : PostA t H1 O r Q := by
  cases r with
  | ok a => exact fun vs H' s rv => h vs H' (e.trans s) rv
  | ex n a => exact fun C dx H' s q => h C dx H' (e.trans s) q
  | no => exact h
/-- one step of an expression, then the rest -/
theorem Post.bind1 {r : RD} {f : Bool × D → RD} {O' : Addr → Prop} {Q Q1 : VK} (h : Post t H O' (r.bind f) Q)
    (k : ∀ fr d v H1, r = .ok (fr, d) → Sm t.K.T H H1 → RV t.K H H1 O fr v d → Post t H1 O' (f (fr, d)) Q → Q1 v H1) : Post t H O r Q1 := by
  cases r with
  | ok a => obtain ⟨fr, d⟩ := a; exact fun v H1 s rv => k fr d v H1 rfl s rv (Post.same s h)
  | ex n a => exact h
  | no => exact h
theorem Post.bindT {r : RD} {f : Bool × D → Rs Bool} {Q : Bool → Hp → Prop} {Q1 : VK} (h : PostT t H (r.bind f) Q)
    (k : ∀ fr d v H1, r = .ok (fr, d) → Sm t.K.T H H1 → RV t.K H H1 O fr v d → PostT t H1 (f (fr, d)) Q → Q1 v H1) : Post t H O r Q1 := by
  cases r with
  | ok a => obtain ⟨fr, d⟩ := a; exact fun v H1 s rv => k fr d v H1 rfl s rv (PostT.same s h)
  | ex n a => exact h
  | no => exact h
theorem Post.bindA {r : RD} {f : Bool × D → Rs (List D)} {O' : Addr → Prop} {Q : List V → Hp → Prop} {Q1 : VK} (h : PostA t H O' (r.bind f) Q)
    (k : ∀ fr d v H1, r = .ok (fr, d) → Sm t.K.T H H1 → RV t.K H H1 O fr v d → PostA t H1 O' (f (fr, d)) Q → Q1 v H1) : Post t H O r Q1 := by
  cases r with
  | ok a => obtain ⟨fr, d⟩ := a; exact fun v H1 s rv => k fr d v H1 rfl s rv (PostA.same s h)
  | ex n a => exact h
  | no => exact h
theorem PostA.bind1 {r : Rs (List D)} {f : List D → RD} {O' : Addr → Prop} {Q : VK} {Q1 : List V → Hp → Prop} (h : Post t H O' (r.bind f) Q)
    (k : ∀ ds vs H1, r = .ok ds → Sm t.K.T H H1 → RpL t.K H1 O vs ds → Post t H1 O' (f ds) Q → Q1 vs H1) : PostA t H O r Q1 := by
  cases r with
  | ok a => exact fun v H1 s rv => k a v H1 rfl s rv (Post.same s h)
  | ex n a => exact h
  | no => exact h
theorem PostA.bindA {r : Rs (List D)} {f : List D → Rs (List D)} {O' : Addr → Prop} {Q : List V → Hp → Prop} {Q1 : List V → Hp → Prop} (h : PostA t H O' (r.bind f) Q)
    (k : ∀ ds vs H1, r = .ok ds → Sm t.K.T H H1 → RpL t.K H1 O vs ds → PostA t H1 O' (f ds) Q → Q1 vs H1) : PostA t H O r Q1 := by
  cases r with
  | ok a => exact fun v H1 s rv => k a v H1 rfl s rv (PostA.same s h)
  | ex n a => exact h
  | no => exact h
theorem PostT.bind1 {r : Rs Bool} {f : Bool → RD} {O' : Addr → Prop} {Q : VK} {Q1 : Bool → Hp → Prop} (h : Post t H O' (r.bind f) Q)
    (k : ∀ b H1, r = .ok b → Sm t.K.T H H1 → Post t H1 O' (f b) Q → Q1 b H1) : PostT t H r Q1 := by
  cases r with
  | ok a => exact fun H1 s => k a H1 rfl s (Post.same s h)
  | ex n a => exact h
  | no => exact h
theorem PostT.bindT {r : Rs Bool} {f : Bool → Rs Bool} {Q : Bool → Hp → Prop} {Q1 : Bool → Hp → Prop} (h : PostT t H (r.bind f) Q)
    (k : ∀ b H1, r = .ok b → Sm t.K.T H H1 → PostT t H1 (f b) Q → Q1 b H1) : PostT t H r Q1 := by
  cases r with
  | ok a => exact fun H1 s => k a H1 rfl s (PostT.same s h)
  | ex n a => exact h
  | no => exact h
theorem Post.here {fr : Bool} {d : D} {Q : VK} {v : V} (h : Post t H O (.ok (fr, d)) Q) (r : RV t.K H H O fr v d) : Q v H := h v H (Sm.refl H) r
theorem PostT.here {b : Bool} {Q : Bool → Hp → Prop} (h : PostT t H (.ok b) Q) : Q b H := h H (Sm.refl H)
theorem Post.owx {r : RD} {O' : Addr → Prop} {Q : VK} (e : ∀ a, O a → O' a) (h : Post t H O r Q) : Post t H O' r Q := by
  cases r with
  | ok a => obtain ⟨fr, d⟩ := a; exact fun v H1 s rv => h v H1 s (rv.mono e)
  | ex n a => exact h
  | no => exact h
end

/-! ### from a reading to another -/
section
variable {X : Cx}
theorem _root_.L2.PE.imp {e : Expr} {t t' : TE} (h : PE X e t) (k : ∀ σ H Q, t' σ H Q → t σ H Q) : PE X e t' := ⟨fun pins s σ H Q I q => h.run pins s σ H Q I (k σ H Q q)⟩
theorem _root_.L2.PT.imp {e : Expr} {t t' : TT} (h : PT X e t) (k : ∀ σ H Q, t' σ H Q → t σ H Q) : PT X e t' := ⟨fun pins s σ H Q I q => h.run pins s σ H Q I (k σ H Q q)⟩
theorem _root_.L2.PW.imp {e : Expr} {t t' : TT} (h : PW X e t) (k : ∀ σ H Q, t' σ H Q → t σ H Q) : PW X e t' := ⟨fun wh pins s σ H Q I q => h.run wh pins s σ H Q I (k σ H Q q)⟩
theorem _root_.L2.PA.imp {es : List Expr} {t t' : TA} (h : PA X es t) (k : ∀ σ H Q, t' σ H Q → t σ H Q) : PA X es t' := ⟨fun pos pins s σ H Q I q => h.run pos pins s σ H Q I (k σ H Q q)⟩
theorem _root_.L2.PS.imp {st : Stmt} {t t' : TS} (h : PS X st t) (k : ∀ D σ H, t' D σ H → t D σ H) : PS X st t' := ⟨fun pins s σ H D I q => h.run pins s σ H D I (k D σ H q)⟩
theorem _root_.L2.PSs.imp {st : List Stmt} {t t' : TS} (h : PSs X st t) (k : ∀ D σ H, t' D σ H → t D σ H) : PSs X st t' := ⟨fun pins s σ H D I q => h.run pins s σ H D I (k D σ H q)⟩
end

/-! ### expressions -/
def eVar (i : Nat) : Env → RD := fun env => match env[i]? with
  | some (some (_, d)) => .ok (false, d)
  | _ => .no
def eC (d : D) : Env → RD := fun _ => .ok (false, d)
def eOp (g : D → D → RD) (a b : Env → RD) : Env → RD := fun env => (a env).bind fun x => (b env).bind fun y => g x.2 y.2
def eUn (g : D → RD) (a : Env → RD) : Env → RD := fun env => (a env).bind fun x => g x.2
def aNil : Env → Rs (List D) := fun _ => .ok []
def aCons (a : Env → RD) (r : Env → Rs (List D)) : Env → Rs (List D) := fun env => (a env).bind fun x => (r env).bind fun xs => .ok (x.2 :: xs)
def eFn (f : List D → RD) (r : Env → Rs (List D)) : Env → RD := fun env => (r env).bind f
def tB (d : D) : Rs Bool := match d with
  | .bl b => .ok b
  | _ => .no
def tE (a : Env → RD) : Env → Rs Bool := fun env => (a env).bind fun x => tB x.2
def tAnd (a b : Env → Rs Bool) : Env → Rs Bool := fun env => (a env).bind fun k => if k = true then b env else .ok false
def tOr (a b : Env → Rs Bool) : Env → Rs Bool := fun env => (a env).bind fun k => if k = true then .ok true else b env
def tNot (a : Env → Rs Bool) : Env → Rs Bool := fun env => (a env).bind fun k => .ok !k
def eAnd (a b : Env → RD) : Env → RD := fun env => (a env).bind fun x => (tB x.2).bind fun k => if k = true then b env else .ok (false, .bl false)
def eOr (a b : Env → RD) : Env → RD := fun env => (a env).bind fun x => (tB x.2).bind fun k => if k = true then .ok (false, .bl true) else b env
def eNot (a : Env → RD) : Env → RD := fun env => (a env).bind fun x => (tB x.2).bind fun k => .ok (false, .bl !k)
def eIf (c : Env → Rs Bool) (a b : Env → RD) : Env → RD := fun env => (c env).bind fun k => if k = true then a env else b env

def GOk1 (t : Ctx) (r : V → Hp → VK → Prop) (g : D → RD) : Prop := ∀ (H : Hp) (O : Addr → Prop) (x : V) (dx : D) (Q : VK), OD O H → Rp t.K H O x dx → Post t H O (g dx) Q → r x H Q
def GOk2 (t : Ctx) (r : R2) (g : D → D → RD) : Prop := ∀ (H : Hp) (O : Addr → Prop) (x y : V) (dx dy : D) (Q : VK), OD O H → Rp t.K H O x dx → Rp t.K H O y dy → Post t H O (g dx dy) Q → r x y H Q
def GOkN (t : Ctx) (r : List V → Hp → VK → Prop) (g : List D → RD) : Prop := ∀ (H : Hp) (O : Addr → Prop) (xs : List V) (ds : List D) (Q : VK), OD O H → RpL t.K H O xs ds → Post t H O (g ds) Q → r xs H Q

section
variable {X : Cx} {t : Ctx} {a b c : Expr} {es : List Expr} {pos : Pos} {Ra Rb R : List Nat} {ma mb : Env → RD}
theorem se_var {i : Nat} {x : Str} {pos : Pos} (hK : t.K = X.K) (h : PE X (.Name x pos) (tVar i)) : PE X (.Name x pos) (eP t [i] (eVar i)) := by
  refine h.imp fun σ H Q ⟨B, O, ow, env, re, po⟩ => ?_
  unfold eVar at po
  split at po
  · rename_i o d e
    cases o with
    | false =>
      obtain ⟨v, h1, h2⟩ := re.fz i d e
      exact ⟨v, h1, po.here (Rp.mono (fun a z => .inl (owx_ow z)) h2)⟩
    | true =>
      obtain ⟨v, h1, h2⟩ := re.tr i d e
      refine ⟨v, h1, po.here (h2.rp fun a m z => ?_)⟩
      rcases z with z | ⟨j, n, z⟩
      · exact (re.own i a m).1.not (re.dom a z)
      · exact n (by rw [re.inj j i a z m]; exact List.mem_singleton.mpr rfl)
  · exact po.elim
theorem se_c {v : V} {d : D} {e : Expr} (h : PE X e (tC v)) (r : ∀ H O, Rp t.K H O v d) : PE X e (eP t [] (eC d)) :=
  h.imp fun σ H Q ⟨B, O, ow, env, re, po⟩ => po.here (r _ _)
theorem op_read {r : R2} {g : D → D → RD} (hg : GOk2 t r g) {σ : L2.St} {H : Hp} {Q : VK} (h : eP t (Ra ++ Rb) (eOp g ma mb) σ H Q) : tOp r (eP t Ra ma) (eP t Rb mb) σ H Q := by
  obtain ⟨B, O, ow, env, re, po⟩ := h
  refine ⟨B, O, ow, env, re, Post.bind1 po fun fr d v H1 _ s1 rv po1 => ?_⟩
  have re1 := re.same s1
  refine ⟨B, O, ow, env, re1, Post.bind1 po1 fun fr2 d2 v2 H2 _ s2 rv2 po2 => ?_⟩
  have re2 := re1.same s2
  exact hg H2 _ v v2 d d2 Q re2.odx ((rv.rp re.odx (fun _ z => owx_l z)).same s2) (rv2.rp re1.odx (fun _ z => owx_r z)) po2
theorem se_op {op : Operator} {r : R2} {g : D → D → RD} (ho : OpR X (binaryOp op) r) (hg : GOk2 t r g) (ha : PE X a (eP t Ra ma)) (hb : PE X b (eP t Rb mb)) : PE X (.BinOp a op b pos) (eP t (Ra ++ Rb) (eOp g ma mb)) :=
  (pe_op ho ha hb).imp fun _ _ _ h => op_read hg h
theorem se_cmp {op : CmpOp} {r : R2} {g : D → D → RD} (ho : OpR X (compareOp op) r) (hg : GOk2 t r g) (ha : PE X a (eP t Ra ma)) (hb : PE X b (eP t Rb mb)) (hm : behindInMarks op b = false) : PE X (.Compare a [op] [b] pos) (eP t (Ra ++ Rb) (eOp g ma mb)) :=
  (pe_cmpR ho ha hb hm).imp fun _ _ _ h => op_read hg h
theorem te_read {e : TE} {R : List Nat} {m : Env → RD} {σ : L2.St} {H : Hp} {Q : Bool → Hp → Prop} (k : ∀ Q, eP t R m σ H Q → e σ H Q) (h : tP t (tE m) σ H Q) : e σ H fun x H' => ∃ k, x = .bl k ∧ Q k H' := by
  obtain ⟨B, O, ow, env, re, po⟩ := h
  refine k _ ⟨B, O, ow, env, re, Post.bindT po fun fr d v H1 _ s1 rv po1 => ?_⟩
  cases d with
  | bl b =>
    refine ⟨b, ?_, po1.here⟩
    have := rv.rp (O' := OwX O R ow) re.odx (fun _ z => z)
    cases this; rfl
  | _ => exact False.elim po1
theorem st_cmp {op : CmpOp} {r : R2} {g : D → D → RD} (ho : OpR X (compareOp op) r) (hg : GOk2 t r g) (ha : PE X a (eP t Ra ma)) (hb : PE X b (eP t Rb mb)) (hm : behindInMarks op b = false) : PT X (.Compare a [op] [b] pos) (tP t (tE (eOp g ma mb))) :=
  (pt_cmpR ho ha hb hm).imp fun _ _ _ h => te_read (fun _ q => op_read hg q) h
theorem st_val {e : Expr} {m : Env → RD} (h : PE X e (eP t R m)) (he : ∀ whole, isTrue e X.env whole = (do let v ← whole; standAt e.pos; holding [v] (truthy v)) := by intro _; rfl) : PT X e (tP t (tE m)) :=
  (pt_val h he).imp fun _ _ _ h => te_read (fun _ q => q) h
theorem se_un {op : UnaryOp} {r : V → Hp → VK → Prop} {g : D → RD} (ho : UnR X (unaryOp op) r) (hg : GOk1 t r g) (ha : PE X a (eP t Ra ma)) : PE X (.UnaryOp op a pos) (eP t Ra (eUn g ma)) :=
  (pe_un ho ha).imp fun σ H Q ⟨B, O, ow, env, re, po⟩ => ⟨B, O, ow, env, re, Post.bind1 po fun fr d v H1 _ s1 rv po1 => hg H1 _ v d Q (re.same s1).odx (rv.rp re.odx fun _ z => z) po1⟩
theorem se_ix {r : R2} {g : D → D → RD} (hr : IxR X r) (hg : GOk2 t r g) (ha : PE X a (eP t Ra ma)) (hb : PE X b (eP t Rb mb)) (hs : PlainIx b) : PE X (.Subscript a b pos) (eP t (Ra ++ Rb) (eOp g ma mb)) :=
  (pe_ix hr ha hb hs).imp fun _ _ _ h => op_read hg h
theorem sa_nil : PA X [] (aP t [] aNil) := pa_nil.imp fun σ H Q ⟨B, O, ow, env, re, po⟩ => po [] H (Sm.refl H) .nil
theorem sa_cons {mr : Env → Rs (List D)} (ha : PE X a (eP t Ra ma)) (hr : PA X es (aP t Rb mr)) (hs : starEach (a :: es) X.env = (false, eval a X.env) :: starEach es X.env := by rfl) : PA X (a :: es) (aP t (Ra ++ Rb) (aCons ma mr)) := by
  refine (pa_cons ha hr hs).imp fun σ H Q ⟨B, O, ow, env, re, po⟩ => ?_
  refine ⟨B, O, ow, env, re, Post.bindA po fun fr d v H1 _ s1 rv po1 => ?_⟩
  have re1 := re.same s1
  refine ⟨B, O, ow, env, re1, PostA.bindA po1 fun ds vs H2 _ s2 rs po2 => ?_⟩
  exact po2 (v :: vs) H2 (Sm.refl H2) (.cons ((rv.rp re.odx (fun _ z => owx_l z)).same s2) (rs.mono fun _ z => .inl (owx_r z)))
theorem fn_read {ta : TA} {mr : Env → Rs (List D)} {r : List V → Hp → VK → Prop} {g : List D → RD} (hg : GOkN t r g) {σ : L2.St} {H : Hp} {Q : VK} (h : eP t R (eFn g mr) σ H Q) : tCB r (aP t R mr) σ H Q := by
  obtain ⟨B, O, ow, env, re, po⟩ := h
  exact ⟨B, O, ow, env, re, PostA.bind1 po fun ds vs H1 _ s1 rs po1 => hg H1 _ vs ds Q (re.same s1).odx rs po1⟩
theorem se_callB {x : Str} {p : Pos} {id : String} {mr : Env → Rs (List D)} {r : List V → Hp → VK → Prop} {g : List D → RD} (hg : GOkN t r g) (hc : CallR X (.builtin id) r) (gl : Gl X x) (hm : X.mg x = none) (hv : bootBuiltins x = some (.builtin id)) (ha : PA X (a :: es) (aP t R mr)) (hn : x ≠ "__name__" := by decide)
    (hdb : (x == ("__debug__" : Str)) = false := by decide) (he : starEach (a :: es) X.env = (false, eval a X.env) :: starEach es X.env := by rfl) (hpl : (backTo pos (starEach es X.env)).any (·.1) = false := by rfl) : PE X (.Call (.Name x p) (a :: es) [] pos) (eP t R (eFn g mr)) :=
  (pe_callB hc gl hm hv ha hn hdb he hpl).imp fun _ _ _ h => fn_read (ta := tNil) hg h
theorem se_callTy {x : Str} {p : Pos} {T : String} {mr : Env → Rs (List D)} {r : List V → Hp → VK → Prop} {g : List D → RD} (hg : GOkN t r g) (hc : CallR X (.type T) r) (gl : Gl X x) (hm : X.mg x = none) (hv : bootBuiltins x = some (.type T)) (ha : PA X (a :: es) (aP t R mr)) (hn : x ≠ "__name__" := by decide)
    (hdb : (x == ("__debug__" : Str)) = false := by decide) (he : starEach (a :: es) X.env = (false, eval a X.env) :: starEach es X.env := by rfl) (hpl : (backTo pos (starEach es X.env)).any (·.1) = false := by rfl) : PE X (.Call (.Name x p) (a :: es) [] pos) (eP t R (eFn g mr)) :=
  (pe_callTy hc gl hm hv ha hn hdb he hpl).imp fun _ _ _ h => fn_read (ta := tNil) hg h
/-! tests -/
theorem st_not {tc : Env → Rs Bool} (h : PT X a (tP t tc)) : PT X (.UnaryOp .Not a pos) (tP t (tNot tc)) :=
  (pt_not h).imp fun σ H Q ⟨B, O, ow, env, re, po⟩ => ⟨B, O, ow, env, re, PostT.bindT po fun b H1 _ s1 po1 => po1.here⟩
theorem sw_and1 {tc : Env → Rs Bool} (h : PT X a (tP t tc)) : PW X (.BoolOp .And [a] pos) (tP t tc) := pw_and1 h
theorem sw_or1 {tc : Env → Rs Bool} (h : PT X a (tP t tc)) : PW X (.BoolOp .Or [a] pos) (tP t tc) := pw_or1 h
theorem sw_and {tc td : Env → Rs Bool} {rest : List Expr} (h : PT X a (tP t tc)) (k : PW X (.BoolOp .And (b :: rest) pos) (tP t td)) : PW X (.BoolOp .And (a :: b :: rest) pos) (tP t (tAnd tc td)) :=
  (pw_and h k).imp fun σ H Q ⟨B, O, ow, env, re, po⟩ => ⟨B, O, ow, env, re, PostT.bindT po fun k H1 _ s1 po1 => by
    cases k with
    | true => exact (if_pos rfl).mpr ⟨B, O, ow, env, re.same s1, po1⟩
    | false => exact (if_neg Bool.false_ne_true).mpr (PostT.here po1)⟩
theorem sw_or {tc td : Env → Rs Bool} {rest : List Expr} (h : PT X a (tP t tc)) (k : PW X (.BoolOp .Or (b :: rest) pos) (tP t td)) : PW X (.BoolOp .Or (a :: b :: rest) pos) (tP t (tOr tc td)) :=
  (pw_or h k).imp fun σ H Q ⟨B, O, ow, env, re, po⟩ => ⟨B, O, ow, env, re, PostT.bindT po fun k H1 _ s1 po1 => by
    cases k with
    | true => exact (if_pos rfl).mpr (PostT.here po1)
    | false => exact (if_neg Bool.false_ne_true).mpr ⟨B, O, ow, env, re.same s1, po1⟩⟩
theorem Post.tb {H : Hp} {O : Addr → Prop} {d : D} {v : V} {f : Bool → RD} {Q : VK} (r : Rp t.K H O v d) (po : Post t H O ((tB d).bind f) Q) : ∃ k, v = .bl k ∧ d = .bl k ∧ Post t H O (f k) Q := by
  cases d with
  | bl k => cases r; exact ⟨k, rfl, rfl, po⟩
  | _ => exact False.elim po
theorem se_and {rest : List Expr} (ha : PE X a (eP t Ra ma)) (hb : PE X (.BoolOp .And (b :: rest) pos) (eP t Rb mb)) : PE X (.BoolOp .And (a :: b :: rest) pos) (eP t (Ra ++ Rb) (eAnd ma mb)) :=
  (pe_and ha hb).imp fun σ H Q ⟨B, O, ow, env, re, po⟩ => ⟨B, O, ow, env, re, Post.bind1 po fun fr d v H1 _ s1 rv po1 => by
    obtain ⟨k, h1, h2, po2⟩ := Post.tb (rv.rp re.odx fun _ z => owx_l z) po1
    refine ⟨k, h1, ?_⟩
    cases k with
    | true => exact (if_pos rfl).mpr ⟨B, O, ow, env, re.same s1, Post.owx (fun _ z => owx_r z) po2⟩
    | false => exact (if_neg Bool.false_ne_true).mpr (Post.here po2 (.bl false))⟩
theorem se_or {rest : List Expr} (ha : PE X a (eP t Ra ma)) (hb : PE X (.BoolOp .Or (b :: rest) pos) (eP t Rb mb)) : PE X (.BoolOp .Or (a :: b :: rest) pos) (eP t (Ra ++ Rb) (eOr ma mb)) :=
  (pe_or ha hb).imp fun σ H Q ⟨B, O, ow, env, re, po⟩ => ⟨B, O, ow, env, re, Post.bind1 po fun fr d v H1 _ s1 rv po1 => by
    obtain ⟨k, h1, h2, po2⟩ := Post.tb (rv.rp re.odx fun _ z => owx_l z) po1
    refine ⟨k, h1, ?_⟩
    cases k with
    | true => exact (if_pos rfl).mpr (Post.here po2 (.bl true))
    | false => exact (if_neg Bool.false_ne_true).mpr ⟨B, O, ow, env, re.same s1, Post.owx (fun _ z => owx_r z) po2⟩⟩
theorem se_one {op} (ha : PE X a (eP t Ra ma)) : PE X (.BoolOp op [a] pos) (eP t Ra ma) := pe_one ha
theorem se_not (ha : PE X a (eP t Ra ma)) : PE X (.UnaryOp .Not a pos) (eP t Ra (eNot ma)) :=
  (pe_not ha).imp fun σ H Q ⟨B, O, ow, env, re, po⟩ => ⟨B, O, ow, env, re, Post.bind1 po fun fr d v H1 _ s1 rv po1 => by
    obtain ⟨k, h1, h2, po2⟩ := Post.tb (rv.rp re.odx fun _ z => z) po1
    exact ⟨k, h1, Post.here po2 (.bl _)⟩⟩
theorem se_if {tc : Env → Rs Bool} (hc : PT X c (tP t tc)) (ha : PE X a (eP t Ra ma)) (hb : PE X b (eP t Rb mb)) : PE X (.IfExp c a b pos) (eP t (Ra ++ Rb) (eIf tc ma mb)) :=
  (pe_ifExp hc ha hb).imp fun σ H Q ⟨B, O, ow, env, re, po⟩ => ⟨B, O, ow, env, re, PostT.bind1 po fun k H1 _ s1 po1 => by
    cases k with
    | true => exact (if_pos rfl).mpr ⟨B, O, ow, env, re.same s1, Post.owx (fun _ z => owx_l z) po1⟩
    | false => exact (if_neg Bool.false_ne_true).mpr ⟨B, O, ow, env, re.same s1, Post.owx (fun _ z => owx_r z) po1⟩⟩
end

/-! ### displays -/
def eTup (r : Env → Rs (List D)) : Env → RD := fun env => (r env).bind fun ds => if ds.length ≤ sizeLine then .ok (false, .tup ds) else .no
/-- a list of things without lists -/
def eLst (r : Env → Rs (List D)) : Env → RD := fun env => (r env).bind fun ds => if ds.length ≤ sizeLine then .ok (lfL ds, .lst ds) else .no
section
variable {X : Cx} {t : Ctx} {es : List Expr} {pos : Pos} {R : List Nat} {mr : Env → Rs (List D)}
theorem upd_newS {H : Hp} {p : Addr} {o : HO} (h : H p = none) : Same H (upd H p o) := fun b u e => by rw [upd_ne (ne_of_none e h)]; exact e
theorem upd_new {H : Hp} {p : Addr} {o : HO} {T : List (Addr × Str)} (h : H p = none) : Sm T H (upd H p o) := sm_of fun b u e => by rw [upd_ne (ne_of_none e h)]; exact e
/-- a new tuple, a new list, at p -/
theorem Rp.newTup {K : PySem.W.Frag} {H : Hp} {O : Addr → Prop} {p : Addr} {vs : List V} {ds : List D} (h : H p = none) (r : RpL K H O vs ds) : Rp K (upd H p (.tup vs)) O (.ref p) (.tup ds) := .tup (.of upd_same) (r.same (upd_new (T := []) h))
theorem RV.newLst {K : PySem.W.Frag} {H : Hp} {O : Addr → Prop} {p : Addr} {vs : List V} {ds : List D} (hO : OD O H) (h : H p = none) (r : RpL K H O vs ds) : RV K H (upd H p (.lst vs)) O (lfL ds) (.ref p) (.lst ds) := by
  cases e : lfL ds with
  | true => exact ⟨[p], .lst upd_same ((r.tr e).same (upd_new (T := []) h)) (fun z => nomatch z), fun a m => by rw [List.mem_singleton.mp m]; exact fr_none h⟩
  | false => exact .lst upd_same (fun z => (fr_none h).not (hO p z)) (r.same (upd_new (T := []) h))
theorem se_tup {x1} (h : PA X es (aP t R mr)) : PE X (.Tuple es x1 pos) (eP t R (eTup mr)) :=
  (pe_tup h).imp fun σ H Q ⟨B, O, ow, env, re, po⟩ => ⟨B, O, ow, env, re, PostA.bind1 po fun ds vs H1 _ s1 rs po1 => by
    by_cases hl : ds.length ≤ sizeLine
    · rw [if_pos hl] at po1
      exact ⟨by rw [rs.len]; exact hl, fun p hp => po1 _ _ (upd_new hp) (Rp.newTup hp rs)⟩
    · rw [if_neg hl] at po1
      exact po1.elim⟩
theorem se_lst (h : PA X es (aP t R mr)) : PE X (.List es pos) (eP t R (eLst mr)) :=
  (pe_lst h).imp fun σ H Q ⟨B, O, ow, env, re, po⟩ => ⟨B, O, ow, env, re, PostA.bind1 po fun ds vs H1 _ s1 rs po1 => by
    by_cases hl : ds.length ≤ sizeLine
    · rw [if_pos hl] at po1
      exact ⟨by rw [rs.len]; exact hl, fun p hp => po1 _ _ (upd_new hp) (RV.newLst (re.same s1).odx hp rs)⟩
    · rw [if_neg hl] at po1
      exact po1.elim⟩
end
end S

/-! statements -/
namespace S
open PySem L2

def frz (R : List Nat) (env : Env) : Env := R.foldr (fun i e => e.modify i (Option.map fun p => (false, p.2))) env
def bindS (i : Nat) (R : List Nat) (fr : Bool) (d : D) (env : Env) : Env :=
  if lf d = true then env.set i (some (false, d)) else if fr = true then env.set i (some (true, d)) else (frz R env).set i (some (false, d))
def mOf (r : RD) (k : Bool → D → Out) : Out := match r with
  | .ok (fr, d) => k fr d
  | .ex n a => .ex n a
  | .no => .no
def mNil : Env → Out := .nx
def mSeq (a b : Env → Out) : Env → Out := fun env => match a env with
  | .nx e => b e
  | o => o
def mSet (i : Nat) (R : List Nat) (m : Env → RD) : Env → Out := fun env => mOf (m env) fun fr d => .nx (bindS i R fr d env)
def mDrop (m : Env → RD) : Env → Out := fun env => mOf (m env) fun _ _ => .nx env
def mRet (m : Env → RD) : Env → Out := fun env => mOf (m env) fun fr d => .rt fr d
def mRetN : Env → Out := fun _ => .rt false .non
def mRetV (i : Nat) : Env → Out := fun env => match env[i]? with
  | some (some (o, d)) => .rt o d
  | _ => .no
def mIf (c : Env → Rs Bool) (a b : Env → Out) : Env → Out := fun env => match c env with
  | .ok k => if k = true then a env else b env
  | .ex n a => .ex n a
  | .no => .no
def mBreak : Env → Out := .bk
def mCont : Env → Out := .ct

def OutOk (t : Ctx) (B : Hp) (O : Addr → Prop) (D : Ends) (o : Out) : Prop := match o with
  | .nx e => ∀ ow σ H, RE t.K B O ow σ H e → D.nx σ H
  | .bk e => ∀ ow σ H, RE t.K B O ow σ H e → D.bk σ H
  | .ct e => ∀ ow σ H, RE t.K B O ow σ H e → D.ct σ H
  | .rt fr d => ∀ v H, Sm t.K.T B H → RV t.K B H O fr v d → D.rt v H
  | .ex n a => ∀ C dx H, Sm t.K.T B H → IsExc t n a C dx H → t.E (.ref C) dx H
  | .no => False
def sP (t : Ctx) (m : Env → Out) : TS := fun D σ H => ∃ B O ow env, RE t.K B O ow σ H env ∧ OutOk t B O D (m env)

section
variable {K : KT} {B H H' : Hp} {O : Addr → Prop} {ow : Nat → List Addr} {σ : L2.St} {env : Env} {R : List Nat}
def owSet (ow : Nat → List Addr) (i : Nat) (F : List Addr) : Nat → List Addr := fun j => if j = i then F else ow j
theorem owSet_same {i : Nat} {F : List Addr} : owSet ow i F i = F := if_pos rfl
theorem owSet_ne {i j : Nat} {F : List Addr} (h : j ≠ i) : owSet ow i F j = ow j := if_neg h
theorem mem_owSet {i j : Nat} {F : List Addr} {a : Addr} (h : a ∈ owSet ow i F j) : (j = i ∧ a ∈ F) ∨ (j ≠ i ∧ a ∈ ow j) := by
  by_cases e : j = i
  · subst e; rw [owSet_same] at h; exact .inl ⟨rfl, h⟩
  · rw [owSet_ne e] at h; exact .inr ⟨e, h⟩
theorem ow_set {i : Nat} {F : List Addr} {a : Addr} (h : Ow O (owSet ow i F) a) : Ow O ow a ∨ a ∈ F := by
  rcases h with h | ⟨j, h⟩
  · exact .inl (.inl h)
  · rcases mem_owSet h with ⟨_, h⟩ | ⟨_, h⟩
    · exact .inr h
    · exact .inl (.inr ⟨j, h⟩)
theorem ow_set0 {i : Nat} {a : Addr} (h : Ow O (owSet ow i []) a) : Ow O ow a := (ow_set h).elim id fun z => nomatch z
theorem RE.notO (re : RE K B O ow σ H env) {i : Nat} {a : Addr} (h : a ∈ ow i) : ¬ O a := fun z => (re.own i a h).1.not (re.dom a z)
theorem set_get {α : Type} {l : List α} {i j : Nat} {x y : α} (h : (l.set i x)[j]? = some y) : (j = i ∧ y = x ∧ i < l.length) ∨ (j ≠ i ∧ l[j]? = some y) := by
  by_cases e : j = i
  · subst e
    by_cases hl : j < l.length
    · rw [List.getElem?_set_self hl] at h; exact .inl ⟨rfl, (Option.some.inj h).symm, hl⟩
    · rw [List.getElem?_eq_none (by simpa using hl)] at h; cases h
  · rw [List.getElem?_set_ne (Ne.symm e)] at h; exact .inr ⟨e, h⟩
/-- a slot holds a shared value -/
theorem RE.putF {i : Nat} {v : V} {d : D} (re : RE K B O ow σ H env) (s : Sm K.T H H') (r : Rp K H' (Ow O (owSet ow i [])) v d) :
    RE K B O (owSet ow i []) (σ.set i (some v)) H' (env.set i (some (false, d))) := by
  have re' := re.same s
  refine ⟨by simp [re.len], re'.ext, re'.tabs, re.dom, fun j e h => ?_, fun j e h => ?_, fun j a h => ?_, fun j k a h1 h2 => ?_⟩
  · rcases set_get h with ⟨rfl, e1, hl⟩ | ⟨ne, h⟩
    · cases e1
      exact ⟨v, List.getElem?_set_self (by rw [re.len]; exact hl), r⟩
    · obtain ⟨w, h1, h2⟩ := re'.fz j e h
      exact ⟨w, by rw [List.getElem?_set_ne (Ne.symm ne)]; exact h1, h2.mono fun a z => .inl (ow_set0 z)⟩
  · rcases set_get h with ⟨rfl, e1, hl⟩ | ⟨ne, h⟩
    · cases e1
    · obtain ⟨w, h1, h2⟩ := re'.tr j e h
      exact ⟨w, by rw [List.getElem?_set_ne (Ne.symm ne)]; exact h1, by rw [owSet_ne ne]; exact h2⟩
  · rcases mem_owSet h with ⟨_, z⟩ | ⟨_, z⟩
    · cases z
    · exact re'.own j a z
  · rcases mem_owSet h1 with ⟨_, z⟩ | ⟨_, z1⟩
    · cases z
    · rcases mem_owSet h2 with ⟨_, z⟩ | ⟨_, z2⟩
      · cases z
      · exact re.inj j k a z1 z2
/-- a slot holds a new tree -/
theorem RE.putT {i : Nat} {v : V} {d : D} {F : List Addr} (re : RE K B O ow σ H env) (s : Sm K.T H H') (r : Tr K H' F v d) (hF : ∀ a ∈ F, Fr H a) :
    RE K B O (owSet ow i F) (σ.set i (some v)) H' (env.set i (some (true, d))) := by
  have re' := re.same s
  refine ⟨by simp [re.len], re'.ext, re'.tabs, re.dom, fun j e h => ?_, fun j e h => ?_, fun j a h => ?_, fun j k a h1 h2 => ?_⟩
  · rcases set_get h with ⟨rfl, e1, hl⟩ | ⟨ne, h⟩
    · cases e1
    · obtain ⟨w, h1, h2⟩ := re.fz j e h
      exact ⟨w, by rw [List.getElem?_set_ne (Ne.symm ne)]; exact h1, (h2.mono fun a z => (ow_set z).imp id (hF a)).same s⟩
  · rcases set_get h with ⟨rfl, e1, hl⟩ | ⟨ne, h⟩
    · cases e1
      exact ⟨v, List.getElem?_set_self (by rw [re.len]; exact hl), by rw [owSet_same]; exact r⟩
    · obtain ⟨w, h1, h2⟩ := re'.tr j e h
      exact ⟨w, by rw [List.getElem?_set_ne (Ne.symm ne)]; exact h1, by rw [owSet_ne ne]; exact h2⟩
  · rcases mem_owSet h with ⟨_, z⟩ | ⟨_, z⟩
    · exact ⟨re.ext.free (hF a z), r.mem a z⟩
    · exact re'.own j a z
  · have no : ∀ {l a}, a ∈ F → a ∈ ow l → False := fun {l a} z1 z2 => by
      obtain ⟨_, u, h, q⟩ := re.own l a z2
      exact hF a z1 u (mut_nt q) h
    rcases mem_owSet h1 with ⟨e1, z1⟩ | ⟨_, z1⟩
    · rcases mem_owSet h2 with ⟨e2, z2⟩ | ⟨_, z2⟩
      · rw [e1, e2]
      · exact (no z1 z2).elim
    · rcases mem_owSet h2 with ⟨e2, z2⟩ | ⟨_, z2⟩
      · exact (no z2 z1).elim
      · exact re.inj j k a z1 z2
/-- one slot frozen -/
theorem RE.freeze1 (i : Nat) (re : RE K B O ow σ H env) : RE K B O (owSet ow i []) σ H (env.modify i (Option.map fun p => (false, p.2))) := by
  have get : ∀ {j : Nat} {f : Bool} {d : D}, (env.modify i (Option.map fun p => (false, p.2)))[j]? = some (some (f, d)) → (j ≠ i ∧ env[j]? = some (some (f, d))) ∨ (j = i ∧ f = false ∧ ∃ g, env[j]? = some (some (g, d))) := fun {j f d} h => by
    rw [List.getElem?_modify] at h
    by_cases e : i = j
    · subst e
      cases q : env[i]? with
      | none => rw [q] at h; simp at h
      | some o =>
        cases o with
        | none => rw [q] at h; simp at h
        | some p =>
          rw [q] at h
          simp at h
          obtain ⟨h1, h2⟩ := h
          exact .inr ⟨rfl, h1, p.1, by rw [← h2]⟩
    · simp only [if_neg e] at h
      exact .inl ⟨Ne.symm e, by simpa using h⟩
  refine ⟨by rw [List.length_modify]; exact re.len, re.ext, re.tabs, re.dom, fun j e h => ?_, fun j e h => ?_, fun j a h => ?_, fun j k a h1 h2 => ?_⟩
  · rcases get h with ⟨ne, h⟩ | ⟨rfl, _, g, h⟩
    · obtain ⟨w, h1, h2⟩ := re.fz j e h
      exact ⟨w, h1, h2.mono fun a z => .inl (ow_set0 z)⟩
    · cases g with
      | false =>
        obtain ⟨w, h1, h2⟩ := re.fz j e h
        exact ⟨w, h1, h2.mono fun a z => .inl (ow_set0 z)⟩
      | true =>
        obtain ⟨w, h1, h2⟩ := re.tr j e h
        refine ⟨w, h1, h2.rp fun a m z => ?_⟩
        rcases z with z | ⟨k, z⟩
        · exact re.notO m z
        · rcases mem_owSet z with ⟨_, z⟩ | ⟨ne, z⟩
          · cases z
          · exact ne (re.inj k j a z m)
  · rcases get h with ⟨ne, h⟩ | ⟨_, z, _⟩
    · obtain ⟨w, h1, h2⟩ := re.tr j e h
      exact ⟨w, h1, by rw [owSet_ne ne]; exact h2⟩
    · cases z
  · rcases mem_owSet h with ⟨_, z⟩ | ⟨_, z⟩
    · cases z
    · exact re.own j a z
  · rcases mem_owSet h1 with ⟨_, z⟩ | ⟨_, z1⟩
    · cases z
    · rcases mem_owSet h2 with ⟨_, z⟩ | ⟨_, z2⟩
      · cases z
      · exact re.inj j k a z1 z2
def owLess (ow : Nat → List Addr) (R : List Nat) : Nat → List Addr := R.foldr (fun i o => owSet o i []) ow
theorem mem_owLess {j : Nat} {a : Addr} : ∀ {R : List Nat}, a ∈ owLess ow R j → j ∉ R ∧ a ∈ ow j
  | [], h => ⟨(fun z => nomatch z), h⟩
  | i :: R, h => by
    rcases mem_owSet (ow := owLess ow R) h with ⟨_, z⟩ | ⟨ne, z⟩
    · cases z
    · obtain ⟨h1, h2⟩ := mem_owLess (R := R) z
      exact ⟨fun z => (List.mem_cons.mp z).elim ne h1, h2⟩
theorem of_owLess {j : Nat} {a : Addr} : ∀ {R : List Nat}, j ∉ R → a ∈ ow j → a ∈ owLess ow R j
  | [], _, h => h
  | i :: R, n, h => by
    show a ∈ owSet (owLess ow R) i [] j
    rw [owSet_ne (fun z => n (by rw [z]; exact List.mem_cons_self))]
    exact of_owLess (fun z => n (List.mem_cons_of_mem _ z)) h
theorem RE.freeze (re : RE K B O ow σ H env) : ∀ R : List Nat, RE K B O (owLess ow R) σ H (frz R env)
  | [] => re
  | i :: R => (RE.freeze re R).freeze1 i
theorem owLess_x {a : Addr} (h : Ow O (owLess ow R) a) : OwX O R ow a := h.elim .inl fun ⟨j, h⟩ => .inr ⟨j, mem_owLess h⟩
theorem x_owLess {a : Addr} (h : OwX O R ow a) : Ow O (owLess ow R) a := h.elim .inl fun ⟨j, n, h⟩ => .inr ⟨j, of_owLess n h⟩
/-- what is bound -/
theorem RE.bind {i : Nat} {fr : Bool} {v : V} {d : D} (re : RE K B O ow σ H env) (s : Sm K.T H H') (rv : RV K H H' (OwX O R ow) fr v d) : ∃ ow', RE K B O ow' (σ.set i (some v)) H' (bindS i R fr d env) := by
  unfold bindS
  by_cases hl : lf d = true
  · rw [if_pos hl]
    exact ⟨_, re.putF s ((rv.rp re.odx fun _ z => z).free hl)⟩
  · rw [if_neg hl]
    cases fr with
    | true =>
      rw [if_pos rfl]
      obtain ⟨F, h1, h2⟩ := rv
      exact ⟨_, re.putT s h1 h2⟩
    | false =>
      rw [if_neg Bool.false_ne_true]
      exact ⟨_, (re.freeze R).putF s (Rp.mono (fun a z => .inl (owLess_x (ow_set0 z))) rv)⟩
/-- the tree of slot i is changed -/
theorem RE.mutate {i : Nat} {v : V} {d d' : D} {F : List Addr} (re : RE K B O ow σ H env) (hv : σ[i]? = some (some v)) (hi : i < env.length) (k : ∀ a u, a ∉ ow i → NT u → H a = some u → H' a = some u) (kt : LamX.Tabs K.T H')
    (T : Tr K H' F v d') (hF : ∀ a ∈ F, a ∈ ow i ∨ Fr H a) : RE K B O (owSet ow i F) σ H' (env.set i (some (true, d'))) := by
  have ht : Firm H H' := fun a u n nt h => k a u (fun m => by
    obtain ⟨_, u', h', q⟩ := re.own i a m
    rw [h] at h'; cases h'; exact n q) nt h
  have fresh : ∀ {j : Nat} {a : Addr}, a ∈ F → a ∈ ow j → j = i := fun {j a} h1 h2 => by
    rcases hF a h1 with z | z
    · exact re.inj j i a h2 z
    · obtain ⟨_, u, h, q⟩ := re.own j a h2
      exact absurd h (z u (mut_nt q))
  refine ⟨by simp [re.len], ⟨fun a u nt h => k a u (fun m => (re.own i a m).1 u nt h) nt (re.ext.keep a u nt h), fun _ => kt⟩, kt, re.dom, fun j e h => ?_, fun j e h => ?_, fun j a h => ?_, fun j l a h1 h2 => ?_⟩
  · rcases set_get h with ⟨rfl, e1, hl⟩ | ⟨ne, h⟩
    · cases e1
    · obtain ⟨w, h1, h2⟩ := re.fz j e h
      refine ⟨w, h1, h2.carry (fun a z => ?_) (fun a u n nt r => k a u (fun m => n (.inr ⟨i, m⟩)) nt r) ht⟩
      rcases ow_set z with z | z
      · exact .inl z
      · exact (hF a z).imp (fun m => .inr ⟨i, m⟩) id
  · rcases set_get h with ⟨rfl, e1, hl⟩ | ⟨ne, h⟩
    · cases e1
      exact ⟨v, hv, by rw [owSet_same]; exact T⟩
    · obtain ⟨w, h1, h2⟩ := re.tr j e h
      refine ⟨w, h1, ?_⟩
      rw [owSet_ne ne]
      exact h2.carry (fun a m u nt r => k a u (fun z => ne (re.inj j i a m z)) nt r) ht
  · rcases mem_owSet h with ⟨_, z⟩ | ⟨ne, z⟩
    · refine ⟨?_, T.mem a z⟩
      rcases hF a z with q | q
      · exact (re.own i a q).1
      · exact re.ext.free q
    · obtain ⟨h1, u, h2, h3⟩ := re.own j a z
      exact ⟨h1, u, k a u (fun m => ne (re.inj j i a z m)) (mut_nt h3) h2, h3⟩
  · rcases mem_owSet h1 with ⟨e1, z1⟩ | ⟨n1, z1⟩
    · rcases mem_owSet h2 with ⟨e2, z2⟩ | ⟨n2, z2⟩
      · rw [e1, e2]
      · exact (n2 (fresh z1 z2)).elim
    · rcases mem_owSet h2 with ⟨e2, z2⟩ | ⟨n2, z2⟩
      · exact (n1 (fresh z2 z1)).elim
      · exact re.inj j l a z1 z2
end

section
variable {X : Cx} {t : Ctx} {e : Expr} {st : Stmt} {sts : List Stmt} {pos pos' : Pos} {R : List Nat} {m : Env → RD} {a b : Env → Out} {x : Str}
theorem mOf_read {B : Hp} {O : Addr → Prop} {D : Ends} {r : RD} {k : Bool → S.D → Out} {H : Hp} {O' : Addr → Prop} {Q : VK} (sB : Sm t.K.T B H) (h : OutOk t B O D (mOf r k))
    (q : ∀ fr d v H1, Sm t.K.T H H1 → RV t.K H H1 O' fr v d → OutOk t B O D (k fr d) → Q v H1) : Post t H O' r Q := by
  cases r with
  | ok a => obtain ⟨fr, d⟩ := a; exact fun v H1 s rv => q fr d v H1 s rv h
  | ex n a => exact fun C dx H1 s z => h C dx H1 (sB.trans s) z
  | no => exact h
theorem ss_nil : PSs X [] (sP t mNil) := pss_nil.imp fun D σ H ⟨B, O, ow, env, re, o⟩ => o ow σ H re
theorem ss_cons (h1 : PS X st (sP t a)) (h2 : PSs X sts (sP t b)) : PSs X (st :: sts) (sP t (mSeq a b)) := by
  refine (pss_cons h1 h2).imp fun D σ H ⟨B, O, ow, env, re, o⟩ => ⟨B, O, ow, env, re, ?_⟩
  unfold mSeq at o
  split at o
  · rename_i e1 he
    rw [he]
    exact fun ow' σ' H' re' => ⟨B, O, ow', e1, re', o⟩
  · rename_i o1 hne
    cases q : a env with
    | nx e1 => exact (hne e1 q).elim
    | _ => rw [q] at o; exact o
theorem ss_one (h1 : PS X st (sP t a)) : PSs X [st] (sP t a) := pss_one h1
theorem ss_pass : PS X (.Pass pos) (sP t mNil) := ps_pass.imp fun D σ H ⟨B, O, ow, env, re, o⟩ => o ow σ H re
theorem ss_break : PS X (.Break pos) (sP t mBreak) := ps_break.imp fun D σ H ⟨B, O, ow, env, re, o⟩ => o ow σ H re
theorem ss_cont : PS X (.Continue pos) (sP t mCont) := ps_continue.imp fun D σ H ⟨B, O, ow, env, re, o⟩ => o ow σ H re
theorem ss_expr (he : PE X e (eP t R m)) (hs : swapsWith e none pos.line X.env = pure false := by rfl) : PS X (.Expr e pos) (sP t (mDrop m)) :=
  (ps_expr he hs).imp fun D σ H ⟨B, O, ow, env, re, o⟩ => ⟨B, O, ow, env, re, mOf_read re.ext o fun fr d v H1 s rv o1 => o1 ow σ H1 (re.same s)⟩
theorem ss_set {i : Nat} (hN : X.N.Nodup) (hi : X.N[i]? = some x) (hx : Loc X.env.scope x) (he : PE X e (eP t R m)) (hs : swapsWith e (some (.Name x pos')) pos.line X.env = pure false := by rfl)
    (hf : X.fn x = true ∨ X.env.scope.names.lookup x = some .local := by first | exact .inl rfl | exact .inr rfl | assumption) : PS X (.Assign [.Name x pos'] e pos) (sP t (mSet i R m)) :=
  (ps_set hN hi hx he hs hf).imp fun D σ H ⟨B, O, ow, env, re, o⟩ => ⟨B, O, ow, env, re, mOf_read re.ext o fun fr d v H1 s rv o1 => by
    obtain ⟨ow', re'⟩ := re.bind (i := i) s rv
    exact o1 ow' _ H1 re'⟩
theorem ss_ret (he : PE X e (eP t R m)) : PS X (.Return (some e) pos) (sP t (mRet m)) :=
  (ps_ret he).imp fun D σ H ⟨B, O, ow, env, re, o⟩ => ⟨B, O, ow, env, re, mOf_read re.ext o fun fr d v H1 s rv o1 => o1 v H1 (re.ext.trans s) ((rv.mono fun a z => .inl z).back re.ext)⟩
theorem ss_retN : PS X (.Return none pos) (sP t mRetN) :=
  ps_retN.imp fun D σ H ⟨B, O, ow, env, re, o⟩ => o .non H re.ext .non
theorem ss_retV {i : Nat} {pos2 : Pos} (h : PE X (.Name x pos2) (tVar i)) : PS X (.Return (some (.Name x pos2)) pos) (sP t (mRetV i)) := by
  refine (ps_ret h).imp fun D σ H ⟨B, O, ow, env, re, o⟩ => ?_
  unfold mRetV at o
  split at o
  · rename_i f d e
    cases f with
    | false =>
      obtain ⟨v, h1, h2⟩ := re.fz i d e
      exact ⟨v, h1, o v H re.ext (h2.mono fun a z => .inl (.inl z))⟩
    | true =>
      obtain ⟨v, h1, h2⟩ := re.tr i d e
      exact ⟨v, h1, o v H re.ext ⟨_, h2, fun a m => (re.own i a m).1⟩⟩
  · exact o.elim
theorem ss_if {c : Expr} {s1 s2 : List Stmt} {tc : Env → Rs Bool} (hc : PT X c (tP t tc)) (ha : PSs X s1 (sP t a)) (hb : PSs X s2 (sP t b)) : PS X (.If c s1 s2 pos) (sP t (mIf tc a b)) := by
  refine (ps_if hc ha hb).imp fun D σ H ⟨B, O, ow, env, re, o⟩ => ⟨B, O, ow, env, re, ?_⟩
  unfold mIf at o
  cases q : tc env with
  | ok k =>
    rw [q] at o
    intro H1 s
    cases k with
    | true => exact (if_pos rfl).mpr ⟨B, O, ow, env, re.same s, o⟩
    | false => exact (if_neg Bool.false_ne_true).mpr ⟨B, O, ow, env, re.same s, o⟩
  | ex n a => rw [q] at o; exact fun C dx H1 s z => o C dx H1 (re.ext.trans s) z
  | no => rw [q] at o; exact o
end
end S

/-! targets, loops -/
namespace S
open PySem L2

def Sets (Zs : List Nat) (σ σ' : L2.St) (ow ow' : Nat → List Addr) : Prop := σ'.length = σ.length ∧ (∀ j, j ∉ Zs → σ'[j]? = σ[j]?) ∧ ∀ j, j ∉ Zs → ow' j = ow j
def gP (t : Ctx) (Zs : List Nat) (mt : D → Env → Option Env) : TG := fun v σ H Q => ∃ B O ow env d, RE t.K B O ow σ H env ∧ Rp t.K H (Ow O ow) v d ∧ match mt d env with
  | some e => ∀ ow' σ', (∀ a, Ow O ow' a → Ow O ow a) → Sets Zs σ σ' ow ow' → RE t.K B O ow' σ' H e → Q σ' H
  | none => False
def gsP (t : Ctx) (Zs : List Nat) (mt : List D → Env → Option Env) : TGs := fun vs σ H Q => ∃ B O ow env ds, RE t.K B O ow σ H env ∧ RpL t.K H (Ow O ow) vs ds ∧ match mt ds env with
  | some e => ∀ ow' σ', (∀ a, Ow O ow' a → Ow O ow a) → Sets Zs σ σ' ow ow' → RE t.K B O ow' σ' H e → Q σ' H
  | none => False
theorem Sets.refl (Zs : List Nat) (σ : L2.St) (ow : Nat → List Addr) : Sets Zs σ σ ow ow := ⟨rfl, fun _ _ => rfl, fun _ _ => rfl⟩
theorem Sets.trans {Zs Zt : List Nat} {σ σ1 σ2 : L2.St} {ow ow1 ow2 : Nat → List Addr} (a : Sets Zs σ σ1 ow ow1) (b : Sets Zt σ1 σ2 ow1 ow2) : Sets (Zs ++ Zt) σ σ2 ow ow2 :=
  ⟨b.1.trans a.1, fun j n => (b.2.1 j fun z => n (List.mem_append_right _ z)).trans (a.2.1 j fun z => n (List.mem_append_left _ z)), fun j n => (b.2.2 j fun z => n (List.mem_append_right _ z)).trans (a.2.2 j fun z => n (List.mem_append_left _ z))⟩
def gName (i : Nat) : D → Env → Option Env := fun d env => some (env.set i (some (false, d)))
def gNil : List D → Env → Option Env := fun ds env => match ds with
  | [] => some env
  | _ => none
def gCons (a : D → Env → Option Env) (r : List D → Env → Option Env) : List D → Env → Option Env := fun ds env => match ds with
  | d :: ds => (a d env).bind (r ds)
  | [] => none
def gTup (n : Nat) (r : List D → Env → Option Env) : D → Env → Option Env := fun d env => match d with
  | .tup ds => if ds.length = n then r ds env else none
  | _ => none
def mAsg (R : List Nat) (m : Env → RD) (g : D → Env → Option Env) : Env → Out := fun env => mOf (m env) fun fr d => match g d (if lf d = true then env else frz R env) with
  | some e => .nx e
  | none => .no

section
variable {X : Cx} {t : Ctx} {pos : Pos}
theorem _root_.L2.PG.imp {e : Expr} {t t' : TG} (h : PG X e t) (k : ∀ v σ H Q, t' v σ H Q → t v σ H Q) : PG X e t' := ⟨fun pins s σ H v u Q I r q => h.run pins s σ H v u Q I r (k v σ H Q q)⟩
theorem _root_.L2.PGs.imp {e : List Expr} {t t' : TGs} (h : PGs X e t) (k : ∀ v σ H Q, t' v σ H Q → t v σ H Q) : PGs X e t' := ⟨fun pins s σ H v u Q I r q => h.run pins s σ H v u Q I r (k v σ H Q q)⟩
theorem _root_.L2.PI.imp {tg e : Expr} {t t' : TI} (h : PI X tg e t) (k : ∀ σ H Q, t' σ H Q → t σ H Q) : PI X tg e t' := ⟨fun pins s σ H R I q => h.run pins s σ H R I (k σ H R q)⟩
theorem sg_name {i : Nat} {x : Str} (hN : X.N.Nodup) (hi : X.N[i]? = some x) (hx : Loc X.env.scope x) (hf : X.fn x = true ∨ X.env.scope.names.lookup x = some .local := by first | exact .inl rfl | exact .inr rfl | assumption) : PG X (.Name x pos) (gP t [i] (gName i)) :=
  (pg_name hN hi hx hf).imp fun v σ H Q ⟨B, O, ow, env, d, re, r, q⟩ => q _ _ (fun a z => ow_set0 z) ⟨by simp, fun j n => List.getElem?_set_ne (fun e => n (by rw [e]; exact List.mem_singleton.mpr rfl)), fun j n => owSet_ne (fun e => n (by rw [e]; exact List.mem_singleton.mpr rfl))⟩ (re.putF (Sm.refl H) (r.mono fun a z => .inl (ow_set0 z)))
theorem sgs_nil : PGs X [] (gsP t [] gNil) := pgs_nil.imp fun v σ H Q ⟨B, O, ow, env, ds, re, r, q⟩ => by
  cases ds with
  | nil => cases r; exact ⟨rfl, q ow σ (fun _ z => z) (Sets.refl _ _ _) re⟩
  | cons _ _ => exact q.elim
theorem sgs_cons {e : Expr} {es : List Expr} {a : D → Env → Option Env} {r : List D → Env → Option Env} {Zs Zt : List Nat} (h1 : PG X e (gP t Zs a)) (h2 : PGs X es (gsP t Zt r))
    (hs : (assignEach (e :: es) X.env).map (·.2) = assign e X.env :: (assignEach es X.env).map (·.2) := by rfl) : PGs X (e :: es) (gsP t (Zs ++ Zt) (gCons a r)) := by
  refine (pgs_cons h1 h2 hs).imp fun v σ H Q ⟨B, O, ow, env, ds, re, rl, q⟩ => ?_
  cases rl with
  | nil => exact q.elim
  | @cons v vs d ds r1 r2 =>
    refine ⟨v, vs, rfl, B, O, ow, env, d, re, r1, ?_⟩
    unfold gCons at q
    cases qa : a d env with
    | none => simp only [qa] at q; exact q
    | some e1 =>
      simp only [qa] at q
      refine fun ow' σ' hw hs' re' => ⟨B, O, ow', e1, ds, re', r2.mono fun a z => .inl (hw a z), ?_⟩
      have q : match r ds e1 with
        | some e => ∀ ow' σ', (∀ a, Ow O ow' a → Ow O ow a) → Sets (Zs ++ Zt) σ σ' ow ow' → RE t.K B O ow' σ' H e → Q σ' H
        | none => False := q
      cases qr : r ds e1 with
      | none => rw [qr] at q; exact q
      | some e2 =>
        rw [qr] at q
        exact fun ow2 σ2 hw2 hs2 re2 => q ow2 σ2 (fun a z => hw a (hw2 a z)) (hs'.trans hs2) re2
theorem sg_tup {es : List Expr} {k : Nat} {r : List D → Env → Option Env} {n : Nat} {Zs : List Nat} (hK : t.K.K = X.K) (hc : X.calm = true) (h : PGs X es (gsP t Zs r))
    (hn : (assignEach es X.env).length = n := by rfl) (hst : (assignEach es X.env).findIdx? (·.1) = none := by rfl) : PG X (.Tuple es k pos) (gP t Zs (gTup n r)) := by
  refine (pg_tup hc h hn hst).imp fun v σ H Q ⟨B, O, ow, env, d, re, rd, q⟩ => ?_
  unfold gTup at q
  cases rd with
  | @tup a xs ds h1 h2 =>
    by_cases hl : ds.length = n
    · simp only [if_pos hl] at q
      exact ⟨a, xs, rfl, by rw [← hK]; exact h1, by rw [h2.len]; exact hl, B, O, ow, env, ds, re, h2, q⟩
    · simp only [if_neg hl] at q
  | _ => exact q.elim
theorem ss_asg {tg e : Expr} {g : D → Env → Option Env} {R Zs : List Nat} {m : Env → RD} (he : PE X e (eP t R m)) (hg : PG X tg (gP t Zs g)) (hs : swapsWithSole [tg] e pos.line X.env = pure false := by rfl) (hw : swappedStores [tg] e X.env = pure none := by rfl)
    (h1 : (assignEach [tg] X.env).map (·.2) = [assign tg X.env] := by rfl) : PS X (.Assign [tg] e pos) (sP t (mAsg R m g)) := by
  refine (ps_asg he hg hs hw h1).imp fun D σ H ⟨B, O, ow, env, re, o⟩ => ⟨B, O, ow, env, re, mOf_read re.ext o fun fr d v H1 s rv o1 => ?_⟩
  have re1 := re.same s
  by_cases hl : lf d = true
  · simp only [if_pos hl] at o1
    refine ⟨B, O, ow, env, d, re1, (rv.rp re.odx (fun _ z => z)).free hl, ?_⟩
    cases qg : g d env with
    | none => rw [qg] at o1; exact o1
    | some e => rw [qg] at o1; exact fun ow' σ' _ _ re' => o1 ow' σ' H1 re'
  · simp only [if_neg hl] at o1
    refine ⟨B, O, owLess ow R, frz R env, d, re1.freeze R, rv.rp re.odx (fun _ z => owLess_x z), ?_⟩
    cases qg : g d (frz R env) with
    | none => rw [qg] at o1; exact o1
    | some e => rw [qg] at o1; exact fun ow' σ' _ _ re' => o1 ow' σ' H1 re'
end

/-! ### what is walked -/
def Keep (O : Addr → Prop) (H1 H2 : Hp) : Prop := (∀ a u, ¬ O a → NT u → H1 a = some u → H2 a = some u) ∧ Firm H1 H2
theorem Keep.rp {K : PySem.W.Frag} {O O' : Addr → Prop} {H1 H2 : Hp} {v : V} {d : D} (k : Keep O H1 H2) (hO : ∀ a, O' a → O a ∨ Fr H1 a) (r : Rp K H1 O v d) : Rp K H2 O' v d := r.carry hO k.1 k.2
theorem Keep.rpl {K : PySem.W.Frag} {O O' : Addr → Prop} {H1 H2 : Hp} {v : List V} {d : List D} (k : Keep O H1 H2) (hO : ∀ a, O' a → O a ∨ Fr H1 a) (r : RpL K H1 O v d) : RpL K H2 O' v d := r.carry hO k.1 k.2
structure WalkOk (K : PySem.W.Frag) (O : Addr → Prop) (J : It) (H1 : Hp) (ds : List D) : Prop where
  go : ∀ H2, Keep O H1 H2 → ∀ i, i < ds.length → J.go i H2
  stop : ∀ H2, Keep O H1 H2 → J.stop ds.length H2
  yld : ∀ H2 O', Keep O H1 H2 → (∀ a, O' a → O a ∨ Fr H1 a) → (∀ a, O' a → Sd H2 a) → ∀ i d x H3, ds[i]? = some d → J.yld i H2 x H3 → Same H2 H3 ∧ Rp K H3 O' x d
def iP (t : Ctx) (R : List Nat) (m : Env → Rs (List D)) : TI := fun σ H Rk => ∃ B O ow env, RE t.K B O ow σ H env ∧ match m env with
  | .ok ds => ∀ J H1, Sm t.K.T H H1 → WalkOk t.K (OwX O R ow) J H1 ds → Rk J H1
  | .ex n a => ∀ C dx H', Sm t.K.T H H' → IsExc t n a C dx H' → t.E (.ref C) dx H'
  | .no => False
def itemsOf (d : D) : Rs (List D) := match d with
  | .lst ds => .ok ds
  | .tup ds => .ok ds
  | .scr ns => .ok (ns.map D.int)
  | _ => .no
def iSeq (m : Env → RD) : Env → Rs (List D) := fun env => (m env).bind fun x => itemsOf x.2
def rangeI (lo : Int) (n : Nat) : List D := (List.range n).map fun (k : Nat) => D.int (lo + (k : Int))
def iRange1 (m : Env → RD) : Env → Rs (List D) := fun env => (m env).bind fun x => match x.2 with
  | .int n => if -(2 ^ 62) ≤ n ∧ n < 2 ^ 62 then .ok (rangeI 0 n.toNat) else .no
  | _ => .no
def iRange2 (m k : Env → RD) : Env → Rs (List D) := fun env => (m env).bind fun x => (k env).bind fun y => match x.2, y.2 with
  | .int i, .int j => if -(2 ^ 62) ≤ i ∧ i < 2 ^ 62 ∧ -(2 ^ 62) ≤ j ∧ j < 2 ^ 62 then .ok (rangeI i (j - i).toNat) else .no
  | _, _ => .no
section
variable {X : Cx} {t : Ctx} {tg l : Expr} {R : List Nat} {m : Env → RD}
def iSeqT (K : PySem.W.Frag) (tl : TE) : TI := fun σ H R => tl σ H fun x H1 => ∃ a, x = .ref a ∧ (((∃ xs, SqL K H1 a xs) ∧ R (Itl K a) H1) ∨ ((∃ xs, SqT K H1 a xs) ∧ R (Itt K a) H1))
theorem pi_seq {l : Expr} {tl : TE} (hl : PE X l tl) : PI X tg l (iSeqT X.K tl) := by
  refine ⟨fun pins s σ H R I h => ?_⟩
  refine thn (hl.run pins s σ H _ I h) fun v s1 ⟨x, H1, I1, r1, q1⟩ => ?_
  obtain ⟨a, e, q1⟩ := q1
  subst e
  cases r1
  have fp : ∀ b ∈ [s1.heap.objs.size], FpOk X pins H1 b := fun b hb => by
    have e : b = s1.heap.objs.size := by simpa using hb
    subst e
    exact I1.fpOk (Nat.le_refl _) (I1.hok.fresh (Nat.le_refl _))
  rcases q1 with ⟨⟨xs, hq⟩, q⟩ | ⟨⟨xs, hq⟩, q⟩
  · obtain ⟨its, rv, p, hz⟩ := I1.list hq
    refine wpAny_pyIter_list p.isList ?_
    exact ⟨s1.heap.objs.size, [s1.heap.objs.size], _, _, H1, rfl, I1.kept (t' := s1.toks) fun b o e => Heap.get?_push_of_some _ e, turn_list a _, ⟨_, Heap.get?_push_size _ rfl, rfl, rfl⟩, fp, q⟩
  · obtain ⟨its, rv, p, hz⟩ := I1.tuple hq
    refine wpAny_pyIter_tuple (show s1.heap.IsTuple a its.toArray from p) ?_
    exact ⟨s1.heap.objs.size, [s1.heap.objs.size], _, _, H1, rfl, I1.kept (t' := s1.toks) fun b o e => Heap.get?_push_of_some _ e, turn_tuple a _, ⟨_, Heap.get?_push_size _ rfl, rfl, rfl⟩, fp, q⟩
theorem walk_seq {K : PySem.W.Frag} {O : Addr → Prop} {H1 : Hp} {a : Addr} {ds : List D} {d : D} (r : Rp K H1 O (.ref a) d) (hd : itemsOf d = .ok ds) :
    ((∃ xs, SqL K H1 a xs) ∧ WalkOk K O (Itl K a) H1 ds) ∨ ((∃ xs, SqT K H1 a xs) ∧ WalkOk K O (Itt K a) H1 ds) := by
  cases r with
  | @lst _ xs _ h h2 hs =>
    cases hd
    refine .inl ⟨⟨xs, SqL.of h⟩, fun H2 k i hi => ?_, fun H2 k => ?_, fun H2 O' k hO _ i d x H3 e y => ?_⟩
    · exact ⟨xs, xs[i]'(by rw [hs.len]; exact hi), SqL.of (k.1 _ _ h2 nt_lst h), List.getElem?_eq_getElem _⟩
    · exact ⟨xs, SqL.of (k.1 _ _ h2 nt_lst h), by rw [hs.len]; exact Nat.le_refl _⟩
    · obtain ⟨e1, y⟩ := y
      subst e1
      obtain ⟨v, h1, h2'⟩ := hs.get e
      have := y xs (SqL.of (k.1 _ _ h2 nt_lst h))
      rw [h1] at this; cases this
      exact ⟨Same.refl _, k.rp hO h2'⟩
  | @scr _ ns h =>
    cases hd
    refine .inl ⟨⟨_, h.sql⟩, fun H2 k i hi => ?_, fun H2 k => ?_, fun H2 O' k hO _ i d x H3 e y => ?_⟩
    · exact ⟨_, (ns.map V.int)[i]'(by simpa using hi), (k.2.f h).sql, List.getElem?_eq_getElem _⟩
    · exact ⟨_, (k.2.f h).sql, by simp⟩
    · obtain ⟨e1, y⟩ := y
      subst e1
      have := y _ (k.2.f h).sql
      rw [List.getElem?_map, Option.map_eq_some_iff] at this e
      obtain ⟨n, h1, rfl⟩ := this
      obtain ⟨m, h2, rfl⟩ := e
      rw [h1] at h2; cases h2
      exact ⟨Same.refl _, .int _⟩
  | @tup _ xs _ h hs =>
    cases hd
    refine .inr ⟨⟨xs, h⟩, fun H2 k i hi => ?_, fun H2 k => ?_, fun H2 O' k hO _ i d x H3 e y => ?_⟩
    · exact ⟨xs, xs[i]'(by rw [hs.len]; exact hi), k.2.t h, List.getElem?_eq_getElem _⟩
    · exact ⟨xs, k.2.t h, by rw [hs.len]; exact Nat.le_refl _⟩
    · obtain ⟨e1, y⟩ := y
      subst e1
      obtain ⟨v, h1, h2⟩ := hs.get e
      have := y xs (k.2.t h)
      rw [h1] at this; cases this
      exact ⟨Same.refl _, k.rp hO h2⟩
  | _ => cases hd
theorem si_seq (hK : t.K.K = X.K) (h : PE X l (eP t R m)) : PI X tg l (iP t R (iSeq m)) := by
  refine (pi_seq h).imp fun σ H Q ⟨B, O, ow, env, re, q⟩ => ⟨B, O, ow, env, re, ?_⟩
  unfold iSeq at q
  cases qm : m env with
  | ok z =>
    obtain ⟨fr, d⟩ := z
    rw [qm] at q
    intro v H1 s rv
    have r := rv.rp re.odx (O' := OwX O R ow) fun _ z => z
    cases qi : itemsOf d with
    | ok ds =>
      simp only [Rs.bind_ok, qi] at q
      have : ∃ a, v = .ref a := by
        cases r with
        | lst _ _ _ => exact ⟨_, rfl⟩
        | tup _ _ => exact ⟨_, rfl⟩
        | scr _ => exact ⟨_, rfl⟩
        | _ => cases qi
      obtain ⟨a, rfl⟩ := this
      refine ⟨a, rfl, ?_⟩
      rw [← hK]
      rcases walk_seq r qi with ⟨h1, h2⟩ | ⟨h1, h2⟩
      · exact .inl ⟨h1, q _ H1 s h2⟩
      · exact .inr ⟨h1, q _ H1 s h2⟩
    | ex n a => cases d <;> cases qi
    | no => simp only [Rs.bind_ok, qi] at q
  | ex n a => rw [qm] at q; exact q
  | no => rw [qm] at q; exact q
theorem walk_range {K : PySem.W.Frag} {O : Addr → Prop} {H1 : Hp} {lo : Int} {n : Nat} : WalkOk K O (Itr lo n) H1 (rangeI lo n) := by
  have hl : (rangeI lo n).length = n := by simp [rangeI]
  refine ⟨fun H2 k i hi => by rw [hl] at hi; exact hi, fun H2 k => by rw [hl]; exact Nat.le_refl n, fun H2 O' k hO _ i d x H3 e y => ?_⟩
  obtain ⟨e1, rfl⟩ := y
  subst e1
  refine ⟨Same.refl _, ?_⟩
  simp only [rangeI, List.getElem?_map, Option.map_eq_some_iff] at e
  obtain ⟨k, h1, rfl⟩ := e
  have hi : i < n := by
    have := (List.getElem?_eq_some_iff.mp h1).1
    simpa using this
  rw [List.getElem?_range hi] at h1
  cases h1
  exact .int _
theorem si_range1 {a : Expr} {p pos : Pos} (hg : Gl X "range") (hm : X.mg "range" = none) (h : PE X a (eP t R m)) (hs : starEach [a] X.env = [(false, eval a X.env)] := by rfl) :
    PI X tg (.Call (.Name "range" p) [a] [] pos) (iP t [] (iRange1 m)) := by
  refine (pi_range1 hg hm (pa_cons h pa_nil hs) hs).imp fun σ H Q ⟨B, O, ow, env, re, q⟩ => ?_
  refine ⟨B, O, ow, env, re, ?_⟩
  unfold iRange1 at q
  cases qm : m env with
  | ok z =>
    obtain ⟨fr, d⟩ := z
    rw [qm] at q
    intro v H1 s rv
    have r := rv.rp re.odx (O' := OwX O R ow) fun _ z => z
    cases d with
    | int n =>
      cases r
      by_cases hn : -(2 ^ 62) ≤ n ∧ n < 2 ^ 62
      · simp only [Rs.bind_ok, if_pos hn] at q
        exact ⟨n, rfl, hn.1, hn.2, q _ H1 s walk_range⟩
      · simp only [Rs.bind_ok, if_neg hn] at q
    | _ => exact q.elim
  | ex n a => rw [qm] at q; exact q
  | no => rw [qm] at q; exact q
theorem si_range2 {a b : Expr} {p pos : Pos} {R' : List Nat} {k : Env → RD} (hg : Gl X "range") (hm : X.mg "range" = none) (h : PE X a (eP t R m)) (h' : PE X b (eP t R' k)) (hs : starEach [a, b] X.env = [(false, eval a X.env), (false, eval b X.env)] := by rfl) (hs2 : starEach [b] X.env = [(false, eval b X.env)] := by rfl) :
    PI X tg (.Call (.Name "range" p) [a, b] [] pos) (iP t [] (iRange2 m k)) := by
  refine (pi_range2 hg hm (pa_cons h (pa_cons h' pa_nil hs2) (by rw [hs, hs2])) hs hs2).imp fun σ H Q ⟨B, O, ow, env, re, q⟩ => ?_
  refine ⟨B, O, ow, env, re, ?_⟩
  unfold iRange2 at q
  cases qm : m env with
  | ok z =>
    obtain ⟨fr, d⟩ := z
    rw [qm] at q
    intro v H1 s rv
    have r := rv.rp re.odx (O' := OwX O R ow) fun _ z => z
    refine ⟨B, O, ow, env, re.same s, ?_⟩
    cases qk : k env with
    | ok z2 =>
      obtain ⟨fr2, d2⟩ := z2
      simp only [Rs.bind_ok, qk] at q
      intro v2 H2 s2 rv2
      have r2 := rv2.rp (re.same s).odx (O' := OwX O R' ow) fun _ z => z
      cases d with
      | int i =>
        cases d2 with
        | int j =>
          cases r; cases r2
          by_cases hn : -(2 ^ 62) ≤ i ∧ i < 2 ^ 62 ∧ -(2 ^ 62) ≤ j ∧ j < 2 ^ 62
          · simp only [if_pos hn] at q
            exact ⟨i, j, rfl, hn, q _ H2 (s.trans s2) walk_range⟩
          · simp only [if_neg hn] at q
        | _ => exact q.elim
      | _ => cases d2 <;> exact q.elim
    | ex n a => simp only [Rs.bind_ok, qk] at q; exact fun C dx H2 s2 z => q C dx H2 (s.trans s2) z
    | no => simp only [Rs.bind_ok, qk] at q; exact q
  | ex n a => rw [qm] at q; exact q
  | no => rw [qm] at q; exact q
end

/-! ### for -/
def mLoop (tg : D → Env → Option Env) (body : Env → Out) : List D → Env → Out
  | [], env => .nx env
  | d :: ds, env => match tg d env with
    | none => .no
    | some e => match body e with
      | .nx e' => mLoop tg body ds e'
      | .ct e' => mLoop tg body ds e'
      | .bk e' => .nx e'
      | .rt fr d => .rt fr d
      | .ex n a => .ex n a
      | .no => .no
def mFor (R : List Nat) (it : Env → Rs (List D)) (tg : D → Env → Option Env) (body : Env → Out) : Env → Out := fun env => match it env with
  | .ok ds => mLoop tg body ds (frz R env)
  | .ex n a => .ex n a
  | .no => .no
open Classical in
/-- what the loop's body must leave -/
noncomputable def under (ow : Nat → List Addr) (H : Hp) : Hp := fun a => if ∃ i, a ∈ ow i then none else H a
section
variable {K : KT} {B H H1 H2 : Hp} {O : Addr → Prop} {ow ow' : Nat → List Addr} {σ : L2.St} {env : Env}
theorem under_no {a : Addr} (h : ¬ ∃ i, a ∈ ow i) : under ow H a = H a := if_neg h
theorem under_some {a : Addr} {u : HO} (h : under ow H a = some u) : (¬ ∃ i, a ∈ ow i) ∧ H a = some u := by
  unfold under at h
  split at h
  · cases h
  · rename_i n; exact ⟨n, h⟩
theorem under_tabs (re : RE K B O ow σ H env) : LamX.Tabs K.T (under ow H) :=
  tabs_but (p := fun a => ∃ i, a ∈ ow i) (fun a n => under_no n) (fun a u ⟨i, m⟩ h => by
    obtain ⟨_, u', h', q⟩ := re.own i a m
    rw [h] at h'; cases h'; exact q) re.tabs
theorem under_fr {a : Addr} (h : ∃ i, a ∈ ow i) : Fr (under ow H) a := fr_none (if_pos h)
theorem RE.inner (re : RE K B O ow σ H env) : RE K (under ow H) O ow σ H env :=
  ⟨re.len, ⟨fun a u _ h => (under_some h).2, fun _ => re.tabs⟩, re.tabs, fun a h => by
    obtain ⟨u, n, e⟩ := re.od a (.inl h)
    exact ⟨u, n, by rw [under_no (fun ⟨i, m⟩ => re.notO m h)]; exact e⟩, re.fz, re.tr, fun i a m => ⟨under_fr ⟨i, m⟩, (re.own i a m).2⟩, re.inj⟩
theorem under_base (re : RE K B O ow σ H env) : Sm K.T B (under ow H) :=
  ⟨fun a u n h => by
    rw [under_no (fun ⟨i, m⟩ => (re.own i a m).1 u n h)]; exact re.ext.keep a u n h, fun _ => under_tabs re⟩
theorem RE.outer {σ' : L2.St} {H' : Hp} {env' : Env} {B' : Hp} (hb : Sm K.T B B') (hd : ∀ a, O a → Sd B a) (re' : RE K B' O ow' σ' H' env') : RE K B O ow' σ' H' env' :=
  ⟨re'.len, hb.trans re'.ext, re'.tabs, hd, re'.fz, re'.tr, fun i a m => ⟨hb.free (re'.own i a m).1, (re'.own i a m).2⟩, re'.inj⟩
theorem RE.keeps (re : RE K B O ow σ H env) (s : Sm K.T (under ow H) H2) : Keep (Ow O ow) H H2 := by
  have k : ∀ a u, (¬ ∃ i, a ∈ ow i) → NT u → H a = some u → H2 a = some u := fun a u n nt h => s.keep a u nt (by rw [under_no n]; exact h)
  have no : ∀ a u, H a = some u → ¬ LD u → ¬ ∃ i, a ∈ ow i := fun a u h n ⟨i, m⟩ => by
    obtain ⟨_, u', h', q⟩ := re.own i a m
    rw [h] at h'; cases h'; exact n q
  exact ⟨fun a u n nt h => k a u (fun z => n (.inr z)) nt h, fun a u n nt h => k a u (no a u h n) nt h⟩
end
section
variable {X : Cx} {t : Ctx} {tg iter : Expr} {body : List Stmt} {R : List Nat} {it : Env → Rs (List D)} {mt : D → Env → Option Env} {mb : Env → Out} {pos : Pos}
theorem OutOk.outer {B B' : Hp} {O : Addr → Prop} {E : Ends} {o : Out} (hb : Sm t.K.T B B') (hd : ∀ a, O a → Sd B a) (h : OutOk t B O E o) : OutOk t B' O E o := by
  cases o with
  | nx e => exact fun ow σ H re => h ow σ H (RE.outer hb hd re)
  | bk e => exact fun ow σ H re => h ow σ H (RE.outer hb hd re)
  | ct e => exact fun ow σ H re => h ow σ H (RE.outer hb hd re)
  | rt fr d => exact fun v H s rv => h v H (hb.trans s) (rv.back hb)
  | ex n a => exact fun C dx H s z => h C dx H (hb.trans s) z
  | no => exact h
theorem ss_for (hp : PassesOwn (model X.prog X.w) X.A X.env X.xe) (hc : X.calm = true) {Zs : List Nat} (hi : PI X tg iter (iP t R it)) (hg : PG X tg (gP t Zs mt)) (hb : PSs X body (sP t mb))
    (hs : ∀ x, foldedSetIterable iter X.env x = pure x := by intro _; rfl) : PS X (.For tg iter body [] pos) (sP t (mFor R it mt mb)) := by
  refine (ps_for hp hc hi hg hb hs).imp fun D σ H ⟨B, O, ow, env, re, o⟩ => ⟨B, O, ow, env, re, ?_⟩
  unfold mFor at o
  cases qi : it env with
  | ok ds =>
    simp only [qi] at o
    intro J H1 s wk
    have re0 := (re.same s).freeze R
    have wk : WalkOk t.K (Ow O (owLess ow R)) J H1 ds := by
      refine ⟨fun H2 k => wk.go H2 ⟨fun a u n => k.1 a u fun z => n (owLess_x z), k.2⟩, fun H2 k => wk.stop H2 ⟨fun a u n => k.1 a u fun z => n (owLess_x z), k.2⟩,
        fun H2 O' k hO => wk.yld H2 O' ⟨fun a u n => k.1 a u fun z => n (owLess_x z), k.2⟩ fun a z => (hO a z).imp owLess_x id⟩
    have o := OutOk.outer (under_base re0) re.dom o
    have hB := re0.inner
    refine ⟨fun i m σ H => m + i = ds.length ∧ ∃ ow2 env2, RE t.K (under (owLess ow R) H1) O ow2 σ H env2 ∧ OutOk t (under (owLess ow R) H1) O D (mLoop mt mb (ds.drop i) env2), ⟨ds.length, by simp, _, _, hB, by simpa using o⟩, ?_⟩
    rintro i m σ2 H2 ⟨hm, ow2, env2, re2, o2⟩
    have kp := re0.keeps re2.ext
    by_cases hi : i < ds.length
    · have hd : ds.drop i = ds[i] :: ds.drop (i + 1) := List.drop_eq_getElem_cons hi
      rw [hd] at o2
      unfold mLoop at o2
      refine .inr ⟨wk.go H2 kp i hi, fun σ' H' => ∃ ow3 env3, RE t.K (under (owLess ow R) H1) O ow3 σ' H' env3 ∧ OutOk t (under (owLess ow R) H1) O D (mLoop mt mb (ds.drop (i + 1)) env3), fun σ' H' hN => ⟨m - 1, by omega, by omega, hN⟩, fun x H3 hy => ?_⟩
      have hO : ∀ a, Ow O ow2 a → Ow O (owLess ow R) a ∨ Fr H1 a := fun a z => by
        rcases z with z | ⟨j, z⟩
        · exact .inl (.inl z)
        · have h0 := (re2.own j a z).1
          by_cases hq : ∃ i, a ∈ owLess ow R i
          · exact .inl (.inr hq)
          · exact .inr fun u n e => h0 u n (by rw [under_no hq]; exact e)
      obtain ⟨s3, r3⟩ := wk.yld H2 (Ow O ow2) kp hO (fun a z => re2.od a z) i ds[i] x H3 (List.getElem?_eq_getElem hi) hy
      refine ⟨_, O, ow2, env2, ds[i], re2.same (sm_of s3), r3, ?_⟩
      cases qt : mt ds[i] env2 with
      | none => rw [qt] at o2; exact o2
      | some e1 =>
        rw [qt] at o2
        refine fun ow' σ' _ _ re' => ⟨_, O, ow', e1, re', ?_⟩
        simp only at o2
        cases qb : mb e1 with
        | nx e2 => rw [qb] at o2; exact fun ow4 σ4 H4 re4 => ⟨ow4, e2, re4, o2⟩
        | ct e2 => rw [qb] at o2; exact fun ow4 σ4 H4 re4 => ⟨ow4, e2, re4, o2⟩
        | bk e2 => rw [qb] at o2; exact fun ow4 σ4 H4 re4 => o2 ow4 σ4 H4 re4
        | rt fr d => rw [qb] at o2; exact o2
        | ex n a => rw [qb] at o2; exact o2
        | no => rw [qb] at o2; exact o2
    · have hl : ds.length ≤ i := Nat.le_of_not_lt hi
      have ei : i = ds.length := by omega
      subst ei
      rw [List.drop_length] at o2
      exact .inl ⟨wk.stop H2 kp, o2 ow2 σ2 H2 re2⟩
  | ex n a => simp only [qi] at o; exact fun C dx H1 s z => o C dx H1 (re.ext.trans s) z
  | no => simp only [qi] at o; exact o

/-! ### while -/
def runW (c : Env → Rs Bool) (b : Env → Out) : Nat → Env → Option Out
  | 0, _ => none
  | n + 1, e => match c e with
    | .ok true => match b e with
      | .nx e' => runW c b n e'
      | .ct e' => runW c b n e'
      | .bk e' => some (.nx e')
      | .rt fr d => some (.rt fr d)
      | .ex n a => some (.ex n a)
      | .no => some .no
    | .ok false => some (.nx e)
    | .ex n a => some (.ex n a)
    | .no => some .no
open Classical in
noncomputable def mWhile (c : Env → Rs Bool) (b : Env → Out) : Env → Out := fun e => if h : ∃ o n, runW c b n e = some o then h.choose else .no
theorem runW_more {c : Env → Rs Bool} {b : Env → Out} : ∀ {n m : Nat} {e : Env} {o : Out}, runW c b n e = some o → n ≤ m → runW c b m e = some o
  | 0, _, _, _, h, _ => by cases h
  | n + 1, 0, _, _, _, hm => by omega
  | n + 1, m + 1, e, o, h, hm => by
    unfold runW at h ⊢
    cases qc : c e with
    | ok k =>
      cases k with
      | true =>
        simp only [qc] at h ⊢
        cases qb : b e with
        | nx e' => simp only [qb] at h ⊢; exact runW_more h (by omega)
        | ct e' => simp only [qb] at h ⊢; exact runW_more h (by omega)
        | bk e' => simp only [qb] at h ⊢; exact h
        | rt fr d => simp only [qb] at h ⊢; exact h
        | ex n a => simp only [qb] at h ⊢; exact h
        | no => simp only [qb] at h ⊢; exact h
      | false => simp only [qc] at h ⊢; exact h
    | ex n a => simp only [qc] at h ⊢; exact h
    | no => simp only [qc] at h ⊢; exact h
theorem runW_inj {c : Env → Rs Bool} {b : Env → Out} {n m : Nat} {e : Env} {o o' : Out} (h : runW c b n e = some o) (h' : runW c b m e = some o') : o = o' := by
  have h1 := runW_more h (Nat.le_max_left n m)
  have h2 := runW_more h' (Nat.le_max_right n m)
  rw [h1] at h2
  exact Option.some.inj h2
theorem mWhile_of {c : Env → Rs Bool} {b : Env → Out} {n : Nat} {e : Env} {o : Out} (h : runW c b n e = some o) : mWhile c b e = o := by
  unfold mWhile
  have hx : ∃ o n, runW c b n e = some o := ⟨o, n, h⟩
  rw [dif_pos hx]
  obtain ⟨m, hm⟩ := hx.choose_spec
  exact runW_inj hm h
theorem mWhile_run {c : Env → Rs Bool} {b : Env → Out} {e : Env} (h : mWhile c b e ≠ .no) : ∃ n, runW c b n e = some (mWhile c b e) := by
  unfold mWhile at h ⊢
  split
  · rename_i hx; exact hx.choose_spec
  · rename_i hx; rw [dif_neg hx] at h; exact absurd rfl h
/-- one turn -/
theorem mWhile_eq (c : Env → Rs Bool) (b : Env → Out) (e : Env) : mWhile c b e = match c e with
    | .ok true => match b e with
      | .nx e' => mWhile c b e'
      | .ct e' => mWhile c b e'
      | .bk e' => .nx e'
      | .rt fr d => .rt fr d
      | .ex n a => .ex n a
      | .no => .no
    | .ok false => .nx e
    | .ex n a => .ex n a
    | .no => .no := by
  have key : ∀ e', (b e = .nx e' ∨ b e = .ct e') → c e = .ok true → mWhile c b e = mWhile c b e' := fun e' hb hc => by
    have step : ∀ n, runW c b (n + 1) e = runW c b n e' := fun n => by
      conv => lhs; unfold runW
      rcases hb with hb | hb <;> simp only [hc, hb]
    by_cases hx : ∃ o n, runW c b n e' = some o
    · obtain ⟨o, n, h⟩ := hx
      rw [mWhile_of h, mWhile_of ((step n).trans h)]
    · have hy : ¬ ∃ o n, runW c b n e = some o := fun ⟨o, n, h⟩ => by
        cases n with
        | zero => cases h
        | succ n => exact hx ⟨o, n, (step n).symm.trans h⟩
      unfold mWhile
      rw [dif_neg hx, dif_neg hy]
  cases qc : c e with
  | ok k =>
    cases k with
    | true =>
      simp only
      cases qb : b e with
      | nx e' => exact key e' (.inl qb) qc
      | ct e' => exact key e' (.inr qb) qc
      | _ => exact mWhile_of (n := 1) (by unfold runW; simp only [qc, qb])
    | false => exact mWhile_of (n := 1) (by unfold runW; simp only [qc])
  | _ => exact mWhile_of (n := 1) (by unfold runW; simp only [qc])
theorem ss_while {c : Expr} {tc : Env → Rs Bool} (hp : PassesOwn (model X.prog X.w) X.A X.env X.xe) (hc : PT X c (tP t tc)) (hb : PSs X body (sP t mb)) : PS X (.While c body [] pos) (sP t (mWhile tc mb)) := by
  refine (ps_while hp hc hb).imp fun D σ H ⟨B, O, ow, env, re, o⟩ => ?_
  have hne : mWhile tc mb env ≠ .no := fun e => by rw [e] at o; exact o
  obtain ⟨n, hn⟩ := mWhile_run hne
  refine ⟨fun n σ H => ∃ ow env o, RE t.K B O ow σ H env ∧ runW tc mb n env = some o ∧ OutOk t B O D o, ⟨n, ow, env, _, re, hn, o⟩, ?_⟩
  rintro n σ2 H2 ⟨ow2, env2, o2, re2, hr, ho⟩
  refine ⟨B, O, ow2, env2, re2, ?_⟩
  cases n with
  | zero => cases hr
  | succ n =>
    unfold runW at hr
    cases qc : tc env2 with
    | ok k =>
      cases k with
      | true =>
        simp only [qc] at hr
        intro H3 s
        refine (if_pos rfl).mpr ⟨fun σ' H' => ∃ ow env o, RE t.K B O ow σ' H' env ∧ runW tc mb n env = some o ∧ OutOk t B O D o, fun σ' H' h => ⟨n, Nat.lt_succ_self n, h⟩, B, O, ow2, env2, re2.same s, ?_⟩
        cases qb : mb env2 with
        | nx e' => simp only [qb] at hr; exact fun ow4 σ4 H4 re4 => ⟨ow4, e', o2, re4, hr, ho⟩
        | ct e' => simp only [qb] at hr; exact fun ow4 σ4 H4 re4 => ⟨ow4, e', o2, re4, hr, ho⟩
        | bk e' => simp only [qb] at hr; cases hr; exact ho
        | rt fr d => simp only [qb] at hr; cases hr; exact ho
        | ex n a => simp only [qb] at hr; cases hr; exact ho
        | no => simp only [qb] at hr; cases hr; exact ho
      | false =>
        simp only [qc] at hr
        cases hr
        intro H3 s
        exact (if_neg Bool.false_ne_true).mpr (ho ow2 σ2 H3 (re2.same s))
    | ex n a => simp only [qc] at hr; cases hr; exact fun C dx H3 s z => ho C dx H3 (re2.ext.trans s) z
    | no => simp only [qc] at hr; cases hr; exact ho
end
end S

/-! defs, calls, raises -/
namespace S
open PySem L2 PyProof.Rows

def mFn (n N : Nat) (m : Env → Out) : List D → RD := fun ds => if ds.length = n then match m (ds.map (fun d => some (false, d)) ++ List.replicate (N - n) none) with
    | .rt fr d => .ok (fr, d)
    | .nx _ => .ok (false, .non)
    | .ex n a => .ex n a
    | _ => .no
  else .no
def spP (K : KT) (mg : Str → Option Value) (n : Nat) (f : List D → RD) : Sp := fun vs H Q E => vs.length = n ∧ ∃ O ds, OD O H ∧ LamX.Tabs K.T H ∧ RpL K H O vs ds ∧ Post ⟨K, mg, E⟩ H O (f ds) Q
/-- a def's promise is what its body is -/
theorem fn_ok {P : Program} {w : World} {K : KT} {mg : Str → Option Value} {base : Heap} {x qual : Str} {st : Stmt} {f : Addr} {fd : FuncData} {N ps : List Str} {k n nN : Nat} {m : Env → Out} {g : List D → RD} (F : Fun K x qual st f fd) (S : FnScope N ps (defScope st)) (hg : g = mFn n nN m) (en : ps.length = n) (eN : N.length = nN)
    (hb : ∀ (cdv : Value) (A : Around) (outer : List PySem.Env) (s : Shared) (H : Hp) (E : XK), Room k (A.deeper (envOfC qual (defScope st) s.heap.objs.size f cdv)) →
      Passes (L2.CX P w) (cxOf (L2.CX P w) P w K mg base N qual (defScope st) f cdv A outer s H E) E →
      Takes (cxOf (L2.CX P w) P w K mg base N qual (defScope st) f cdv A outer s H E) (fun cls d _ H => E cls d H) →
      PassesOwn (model P w) (cxOf (L2.CX P w) P w K mg base N qual (defScope st) f cdv A outer s H E).A (cxOf (L2.CX P w) P w K mg base N qual (defScope st) f cdv A outer s H E).env (cxOf (L2.CX P w) P w K mg base N qual (defScope st) f cdv A outer s H E).xe →
      PSs (cxOf (L2.CX P w) P w K mg base N qual (defScope st) f cdv A outer s H E) (defBody st) (sP ⟨K, mg, E⟩ m)) : FnOk P w K mg base (L2.CX P w) (k + 1) f fd ps (spP K mg n g) := by
  subst hg en eN
  have hpl : ps.length ≤ N.length := by have := congrArg List.length S.pre; rw [List.length_take] at this; omega
  refine F.okX S (fun vs H Q E h => h.1) fun cdv A outer s H vs Q E hr h => ⟨_, hb cdv A outer s H E hr (passes_call (takes_of rfl rfl rfl rfl) fun _ _ _ _ h => h) (takes_of rfl rfl rfl rfl) (passes_of rfl), ?_⟩
  obtain ⟨hl, O, ds, hO, hT, rl, po⟩ := h
  have hld : ds.length = ps.length := by rw [← rl.len]; exact hl
  unfold mFn at po
  rw [if_pos hld] at po
  have get : ∀ {i : Nat} {fl : Bool} {d : D}, (ds.map (fun d => some (false, d)) ++ List.replicate (N.length - ps.length) none)[i]? = some (some (fl, d)) → fl = false ∧ ds[i]? = some d := fun {i fl d} e => by
    by_cases hi : i < ds.length
    · rw [List.getElem?_append_left (by simpa using hi), List.getElem?_map] at e
      cases q : ds[i]? with
      | none => rw [q] at e; cases e
      | some d' => rw [q] at e; cases e; exact ⟨rfl, rfl⟩
    · rw [List.getElem?_append_right (by simpa using Nat.le_of_not_lt hi), List.getElem?_replicate] at e
      split at e <;> cases e
  have re : RE K H O (fun _ => []) (L2.start N vs) H (ds.map (fun d => some (false, d)) ++ List.replicate (N.length - ps.length) none) := by
    refine ⟨by simp [L2.start, hl, hld], Sm.refl H, hT, hO, fun i d e => ?_, fun i d e => ?_, fun i a z => (nomatch z), fun i j a z => (nomatch z)⟩
    · obtain ⟨_, e1⟩ := get e
      obtain ⟨v, h1, h2⟩ := rl.get e1
      refine ⟨v, ?_, h2.mono fun a z => .inl (z.elim id fun ⟨_, z⟩ => nomatch z)⟩
      have hi := (List.getElem?_eq_some_iff.mp h1).1
      unfold L2.start
      rw [List.getElem?_append_left (by simpa using hi), List.getElem?_map, h1]
      rfl
    · exact nomatch (get e).1
  refine ⟨H, O, fun _ => [], _, re, ?_⟩
  cases q : m (ds.map (fun d => some (false, d)) ++ List.replicate (N.length - ps.length) none) with
  | nx e => rw [q] at po; exact fun ow σ H' re' => po .non H' re'.ext .non
  | rt fr d => rw [q] at po; exact po
  | ex n a => rw [q] at po; exact po
  | _ => rw [q] at po; exact po.elim
theorem mFn_len {n N : Nat} {m : Env → Out} {ds : List D} (h : ds.length ≠ n) : mFn n N m ds = .no := if_neg h
/-- a weaker promise: another function that says the same where it says something -/
def Le (f g : List D → RD) : Prop := ∀ ds, f ds ≠ .no → g ds = f ds
theorem fn_le {P : Program} {w : World} {K : KT} {mg : Str → Option Value} {base : Heap} {CX : CXT} {k : Nat} {f : Addr} {fd : FuncData} {ps : List Str} {n : Nat} {g h : List D → RD} (F : FnOk P w K mg base CX k f fd ps (spP K mg n g)) (l : Le h g) :
    FnOk P w K mg base CX k f fd ps (spP K mg n h) := F.imp fun vs H Q E ⟨h1, O, ds, h2, ht, h3, h4⟩ => ⟨h1, O, ds, h2, ht, h3, by
  rw [l ds (fun e => by rw [e] at h4; exact h4)]; exact h4⟩

section
variable {X : Cx} {t : Ctx} {k n : Nat} {f : Addr} {fd : FuncData} {ps : List Str} {g : List D → RD} {x : Str} {p pos : Pos} {e : Expr} {es : List Expr} {R : List Nat} {ma : Env → Rs (List D)}
theorem se_call (hK : t.K.K = X.K) (hmg : t.mg = X.mg) (hx : Passes (L2.CX X.prog X.w) X t.E) (F : FnOk X.prog X.w X.K X.mg X.base (L2.CX X.prog X.w) k f fd ps (spP t.K t.mg n g)) (hr : Room k X.A) (hg : Gl X x) (hm : X.mg x = some (.ref f)) (hk : PySem.W.keepIn X.K (.ref f) = true) (hb : Binds X.K fd ps [])
    (hn : ∀ ds, ds.length ≠ n → g ds = .no) (ha : PA X (e :: es) (aP t R ma)) (hdb : (x == ("__debug__" : Str)) = false := by decide) (he : starEach (e :: es) X.env = (false, eval e X.env) :: starEach es X.env := by rfl) (hpl : (backTo pos (starEach es X.env)).any (·.1) = false := by rfl) :
    PE X (.Call (.Name x p) (e :: es) [] pos) (eP t R (eFn g ma)) := by
  refine (pe_call F hr hg hm hk hb .nil hx ha hdb he hpl).imp fun σ H Q ⟨B, O, ow, env, re, po⟩ => ⟨B, O, ow, env, re, PostA.bind1 po fun ds vs H1 _ s1 rs po1 => ?_⟩
  have hl : ds.length = n := by
    by_cases h : ds.length = n
    · exact h
    · rw [hn ds h] at po1; exact po1.elim
  rw [List.append_nil]
  exact ⟨by rw [rs.len]; exact hl, OwX O R ow, ds, (re.same s1).odx, (re.same s1).tabs, rs, po1⟩
theorem se_call0 (hK : t.K.K = X.K) (hmg : t.mg = X.mg) (hx : Passes (L2.CX X.prog X.w) X t.E) (F : FnOk X.prog X.w X.K X.mg X.base (L2.CX X.prog X.w) k f fd ps (spP t.K t.mg n g)) (hr : Room k X.A) (hg : Gl X x) (hm : X.mg x = some (.ref f)) (hk : PySem.W.keepIn X.K (.ref f) = true) (hb : Binds X.K fd ps [])
    (hn : ∀ ds, ds.length ≠ n → g ds = .no) (hdb : (x == ("__debug__" : Str)) = false := by decide) : PE X (.Call (.Name x p) [] [] pos) (eP t [] (eFn g aNil)) := by
  refine (pe_call0 F hr hg hm hk hb .nil hx hdb).imp fun σ H Q ⟨B, O, ow, env, re, po⟩ => ?_
  have po : Post t H (OwX O [] ow) (g []) Q := po
  have hl : ([] : List D).length = n := by
    by_cases h : ([] : List D).length = n
    · exact h
    · rw [hn [] h] at po; exact po.elim
  exact ⟨hl, OwX O [] ow, [], re.odx, re.tabs, .nil, po⟩
/-- raise X(), X without __init__ -/
def mRaise (n : Str) (a : Option D) : Env → Out := fun _ => .ex n a
theorem pmk_own0 {C : Addr} {bmB : List Value} {B newId initId : String} (F : ExcBaseFacts B newId initId bmB) (q : PySem.W.excIn X.K C bmB newId = true) (gC : X.mg x = some (.ref C))
    (kC : PySem.W.keepIn X.K (.ref C) = true) (r : Raises X (.ref C)) (hg : Gl X x) (hdb : (x == ("__debug__" : Str)) = false := by decide) :
    PMk X (.Call (.Name x p) [] [] pos) (fun σ H Q => Q (.ref C) none H) := by
  intro pins s σ H Q I h
  refine wpAny_Call_Name_kw (ld_glob I hg gC ?_ hdb)
  refine PySem.W.callWith_K0 I.kIn kC ?_
  show wpAny _ _ (call (.ref C) []) _ _ _
  obtain ⟨bm, N, nm, qn, bs, hdct, sn, sub, ab, col, dd, k0, k1, k2, k3, k5, mN, hC, hN, hni, T⟩ := exc_obj I.kIn q
  refine wpAny_call_exc_subT F T hC hN hni (fun h' e hm => ?_) (Nat.zero_le _)
  exact mk_of I hm r h (I.hok.gone hm.new)
theorem ss_raise0 {C : Addr} {bmB : List Value} {B newId initId : String} {pos' : Pos} (hmg : t.mg = X.mg) (hc : X.calm = true) (tk : Takes X (fun cls d _ H => t.E cls d H)) (F : ExcBaseFacts B newId initId bmB) (q : PySem.W.excIn X.K C bmB newId = true) (gC : X.mg x = some (.ref C))
    (kC : PySem.W.keepIn X.K (.ref C) = true) (r : Raises X (.ref C)) (hg : Gl X x) (hdb : (x == ("__debug__" : Str)) = false := by decide) :
    PS X (.Raise (some (.Call (.Name x p) [] [] pos)) none pos') (sP t (mRaise x none)) :=
  (ps_raise hc tk (pmk_own0 F q gC kC r hg hdb)).imp fun D σ H ⟨B, O, ow, env, re, o⟩ => o C none H re.ext ⟨by rw [hmg]; exact gC, rfl⟩
end
end S

/-! operators and built-in functions on data -/
namespace S
open PySem L2 PySem.Spec PyProof.Rows

def b2 (b : Bool) : RD := .ok (false, .bl b)
def i2 (i : Int) : RD := .ok (false, .int i)
def gAdd (x y : D) : RD := match x, y with
  | .int i, .int j => i2 (i + j)
  | .tup xs, .tup ys => if xs.length + ys.length ≤ sizeLine then .ok (false, .tup (xs ++ ys)) else .no
  | .lst xs, .lst ys => if xs.length + ys.length ≤ sizeLine then .ok (lfL (xs ++ ys), .lst (xs ++ ys)) else .no
  | .str a, .str b => if a.length + b.length ≤ sizeLine then .ok (false, .str (a ++ b)) else .no
  | _, _ => .no
def gSub (x y : D) : RD := match x, y with
  | .int i, .int j => i2 (i - j)
  | _, _ => .no
def gMul (x y : D) : RD := match x, y with
  | .int i, .int j => if i.natAbs.log2 + j.natAbs.log2 < 1000000 then i2 (i * j) else .no
  | .tup xs, .int k => if xs.length * k.toNat ≤ sizeLine ∧ -(2 ^ 63) ≤ k ∧ k < 2 ^ 63 then .ok (false, .tup (List.replicate k.toNat xs).flatten) else .no
  | .lst xs, .int k => if xs.length * k.toNat ≤ sizeLine ∧ -(2 ^ 63) ≤ k ∧ k < 2 ^ 63 then .ok (lfL (List.replicate k.toNat xs).flatten, .lst (List.replicate k.toNat xs).flatten) else .no
  | _, _ => .no
def gMod (x y : D) : RD := match x, y with
  | .int i, .int j => if 0 < j then i2 (i % j) else .no
  | _, _ => .no
def gFdiv (x y : D) : RD := match x, y with
  | .int i, .int j => if 0 < j ∧ j.natAbs.log2 < 9000 then i2 (i / j) else .no
  | _, _ => .no
def gPow (x y : D) : RD := match x, y with
  | .int i, .int j => if 0 ≤ j ∧ j ≤ 1000000 ∧ i.natAbs < 2 ^ 64 then i2 (i ^ j.toNat) else .no
  | _, _ => .no
def gNeg (x : D) : RD := match x with
  | .int i => i2 (-i)
  | _ => .no
def cmpI (f : Int → Int → Bool) (x y : D) : RD := match x, y with
  | .int i, .int j => b2 (f i j)
  | _, _ => .no
def gLt := cmpI fun i j => decide (i < j)
def gLe := cmpI fun i j => decide (i ≤ j)
def gGt := cmpI fun i j => decide (j < i)
def gGe := cmpI fun i j => decide (j ≤ i)
def eqv (x y : D) : Bool := PyData.eqv (py x) (py y)
def okEq (x : D) : Bool := plain x && SeqAt.shaped (py x)
def gEq (x y : D) : RD := if okEq x = true ∧ okEq y = true then b2 (eqv x y) else .no
def gNe (x y : D) : RD := if okEq x = true ∧ okEq y = true then b2 (!eqv x y) else .no
/-- things without places -/
def flat : D → Bool
  | .non => true | .bl _ => true | .int _ => true | .str _ => true
  | _ => false
def hasKey (k : Key) (kvs : List (Key × D)) : Bool := kvs.any fun p => decide (p.1 = k)
def isIn (x : D) (ys : List D) : Bool := ys.any fun y => eqv y x
def gIn (neg : Bool) (x y : D) : RD := match y with
  | .lst ys => if flat x = true ∧ ys.all flat = true then b2 (if neg then !isIn x ys else isIn x ys) else .no
  | .tup ys => if flat x = true ∧ ys.all flat = true then b2 (if neg then !isIn x ys else isIn x ys) else .no
  | _ => .no
def gIx (x y : D) : RD := match x, y with
  | .lst xs, .int i => match atI xs i with
    | some d => .ok (false, d)
    | none => .no
  | .tup xs, .int i => match atI xs i with
    | some d => .ok (false, d)
    | none => .no
  | .scr ns, .int i => match atI ns i with
    | some n => i2 n
    | none => .no
  | .str z, .int i => if z.length ≤ sizeLine then match atI z.cps.toList i with
    | some c => .ok (false, .str ⟨#[c]⟩)
    | none => .no else .no
  | _, _ => .no
def cutD (xs : List D) (lo hi : Option Int) : List D := (xs.drop (HT.sIx xs.length 0 lo)).take (HT.sIx xs.length xs.length hi - HT.sIx xs.length 0 lo)
def gSl (lo hi : Option Int) (x : D) : RD := match x with
  | .lst xs => .ok (lfL (cutD xs lo hi), .lst (cutD xs lo hi))
  | .tup xs => .ok (false, .tup (cutD xs lo hi))
  | _ => .no
def gRev (x : D) : RD := match x with
  | .lst xs => .ok (lfL xs.reverse, .lst xs.reverse)
  | _ => .no
def gIsN (x : D) : RD := match x with
  | .non => b2 true
  | .raw _ _ _ => .no
  | _ => b2 false
def gNotN (x : D) : RD := match x with
  | .non => b2 false
  | .raw _ _ _ => .no
  | _ => b2 true
def fLen (ds : List D) : RD := match ds with
  | [.lst xs] => i2 xs.length
  | [.tup xs] => i2 xs.length
  | [.str z] => if z.length ≤ sizeLine then i2 z.length else .no
  | [.scr ns] => i2 ns.length
  | _ => .no
def fAbs (ds : List D) : RD := match ds with
  | [.int i] => i2 (if i < 0 then -i else i)
  | _ => .no
def fMax (ds : List D) : RD := match ds with
  | [.int i, .int j] => i2 (if j > i then j else i)
  | _ => .no
def fMin (ds : List D) : RD := match ds with
  | [.int i, .int j] => i2 (if j < i then j else i)
  | _ => .no
def fInt (ds : List D) : RD := match ds with
  | [.int i] => i2 i
  | [.bl b] => i2 (if b then 1 else 0)
  | _ => .no
def fStr (ds : List D) : RD := match ds with
  | [.int i] => if i.natAbs.log2 < 1920 then .ok (false, .str (toString i)) else .no
  | _ => .no
def fList (ds : List D) : RD := match ds with
  | [.lst xs] => .ok (lfL xs, .lst xs)
  | [.tup xs] => .ok (lfL xs, .lst xs)
  | _ => .no
def fTuple (ds : List D) : RD := match ds with
  | [.lst xs] => .ok (false, .tup xs)
  | [.tup xs] => .ok (false, .tup xs)
  | _ => .no
/-- the built-in class of data -/
def tyOf : D → Option String
  | .non => some "NoneType" | .bl _ => some "bool" | .int _ => some "int" | .str _ => some "str"
  | .tup _ => some "tuple" | .lst _ => some "list" | .dct _ => some "dict" | .raw _ _ _ => none | .scr _ => some "list"
def fIsi (T : String) (d : D) : RD := match tyOf d with
  | some s => match kitB s T with
    | some b => b2 b
    | none => .no
  | none => .no

section
variable {X : Cx} {t : Ctx}
theorem post_b {H : Hp} {O : Addr → Prop} {b : Bool} {Q : VK} (h : Post t H O (b2 b) Q) : Q (.bl b) H := h _ _ (Sm.refl H) (.bl b)
theorem post_i {H : Hp} {O : Addr → Prop} {i : Int} {Q : VK} (h : Post t H O (i2 i) Q) : Q (.int i) H := h _ _ (Sm.refl H) (.int i)


theorem newTup {H : Hp} {O : Addr → Prop} {vs : List V} {ds : List D} {Q : VK} (r : RpL t.K H O vs ds) (po : Post t H O (.ok (false, .tup ds)) Q) : ∀ p, H p = none → Q (.ref p) (upd H p (.tup vs)) :=
  fun p hp => po _ _ (upd_new hp) (Rp.newTup hp r)
theorem newLst {H : Hp} {O : Addr → Prop} {vs : List V} {ds : List D} {Q : VK} (hO : OD O H) (r : RpL t.K H O vs ds) (po : Post t H O (.ok (lfL ds, .lst ds)) Q) : ∀ p, H p = none → Q (.ref p) (upd H p (.lst vs)) :=
  fun p hp => po _ _ (upd_new hp) (RV.newLst hO hp r)
/-! ### + -/
def rStrCat : R2 := fun x y H Q => ∃ i j, x = .str i ∧ y = .str j ∧ i.length + j.length ≤ sizeLine ∧ Q (.str (i ++ j)) H
def rAddU (K : PySem.W.Frag) : R2 := fun x y H Q => rI0 (fun i j => .int (i + j)) x y H Q ∨ (rCatA K x y H Q ∨ (rCat x y H Q ∨ rStrCat x y H Q))
theorem op_addU : OpR X (binaryOp .Add) (rAddU X.K) := op_add.or (op_catA.or (op_cat.or op_add_str))
theorem ok_add : GOk2 t (rAddU t.K) gAdd := by
  intro H O x y dx dy Q hO rx ry po
  cases rx with
  | int i =>
    cases ry with
    | int j => exact .inl ⟨i, j, rfl, rfl, post_i po⟩
    | _ => exact False.elim po
  | @tup a xs ds h1 h2 =>
    cases ry with
    | @tup b ys es h3 h4 =>
      unfold gAdd at po
      by_cases hl : ds.length + es.length ≤ sizeLine
      · simp only [if_pos hl] at po
        refine .inr (.inl ⟨a, b, xs, ys, rfl, rfl, h1, h3, by rw [h2.len, h4.len]; exact hl, fun e => ?_, fun _ e => ?_, fun _ _ => newTup (h2.append h4) po⟩)
        · subst e
          cases h2
          exact po.here (.tup h3 h4)
        · subst e
          cases h4
          rw [List.append_nil] at po
          exact po.here (.tup h1 h2)
      · simp only [if_neg hl] at po
        exact False.elim po
    | _ => exact False.elim po
  | @lst a xs ds h1 n1 h2 =>
    cases ry with
    | @lst b ys es h3 n3 h4 =>
      unfold gAdd at po
      by_cases hl : ds.length + es.length ≤ sizeLine
      · simp only [if_pos hl] at po
        exact .inr (.inr (.inl ⟨a, b, xs, ys, rfl, rfl, h1, h3, by rw [h2.len, h4.len]; exact hl, newLst hO (h2.append h4) po⟩))
      · simp only [if_neg hl] at po
        exact False.elim po
    | _ => exact False.elim po
  | str i =>
    cases ry with
    | str j =>
      unfold gAdd at po
      by_cases hl : i.length + j.length ≤ sizeLine
      · simp only [if_pos hl] at po
        exact .inr (.inr (.inr ⟨i, j, rfl, rfl, hl, po.here (.str _)⟩))
      · simp only [if_neg hl] at po
        exact False.elim po
    | _ => exact False.elim po
  | _ => exact False.elim po
theorem ok_sub : GOk2 t (rI0 fun i j => .int (i - j)) gSub := by
  intro H O x y dx dy Q hO rx ry po
  cases rx with
  | int i =>
    cases ry with
    | int j => exact ⟨i, j, rfl, rfl, post_i po⟩
    | _ => exact False.elim po
  | _ => exact False.elim po
theorem ok_mod : GOk2 t (rI (fun _ j => 0 < j) fun i j => .int (i % j)) gMod := by
  intro H O x y dx dy Q hO rx ry po
  cases rx with
  | int i =>
    cases ry with
    | int j =>
      unfold gMod at po
      by_cases hl : 0 < j
      · simp only [if_pos hl] at po
        exact ⟨i, j, rfl, rfl, hl, post_i po⟩
      · simp only [if_neg hl] at po
        exact False.elim po
    | _ => exact False.elim po
  | _ => exact False.elim po
theorem ok_fdiv : GOk2 t (rI CDivW fun i j => .int (i / j)) gFdiv := by
  intro H O x y dx dy Q hO rx ry po
  cases rx with
  | int i =>
    cases ry with
    | int j =>
      unfold gFdiv at po
      by_cases hl : 0 < j ∧ j.natAbs.log2 < 9000
      · simp only [if_pos hl] at po
        exact ⟨i, j, rfl, rfl, hl, post_i po⟩
      · simp only [if_neg hl] at po
        exact False.elim po
    | _ => exact False.elim po
  | _ => exact False.elim po
theorem ok_pow : GOk2 t (rI CPow fun i j => .int (i ^ j.toNat)) gPow := by
  intro H O x y dx dy Q hO rx ry po
  cases rx with
  | int i =>
    cases ry with
    | int j =>
      unfold gPow at po
      by_cases hl : 0 ≤ j ∧ j ≤ 1000000 ∧ i.natAbs < 2 ^ 64
      · simp only [if_pos hl] at po
        exact ⟨i, j, rfl, rfl, hl, post_i po⟩
      · simp only [if_neg hl] at po
        exact False.elim po
    | _ => exact False.elim po
  | _ => exact False.elim po
theorem ok_neg : GOk1 t (rU fun i => .int (-i)) gNeg := by
  intro H O x dx Q hO rx po
  cases rx with
  | int i => exact ⟨i, rfl, post_i po⟩
  | _ => exact False.elim po
theorem ok_cmpI (f : Int → Int → Bool) : GOk2 t (rI0 fun i j => .bl (f i j)) (cmpI f) := by
  intro H O x y dx dy Q hO rx ry po
  cases rx with
  | int i =>
    cases ry with
    | int j => exact ⟨i, j, rfl, rfl, post_b po⟩
    | _ => exact False.elim po
  | _ => exact False.elim po
theorem ok_lt : GOk2 t (rI0 fun i j => .bl (decide (i < j))) gLt := ok_cmpI _
theorem ok_le : GOk2 t (rI0 fun i j => .bl (decide (i ≤ j))) gLe := ok_cmpI _
theorem ok_gt : GOk2 t (rI0 fun i j => .bl (decide (j < i))) gGt := ok_cmpI _
theorem ok_ge : GOk2 t (rI0 fun i j => .bl (decide (j ≤ i))) gGe := ok_cmpI _
/-! ### == -/
theorem okEq_dp {K : PySem.W.Frag} {H : Hp} {O : Addr → Prop} {v : V} {d : D} (r : Rp K H O v d) (h : okEq d = true) : Dp K H v (py d) ∧ SeqAt.shaped (py d) = true :=
  let h' := Bool.and_eq_true_iff.mp h
  ⟨r.dp h'.1, h'.2⟩
theorem ok_eq : GOk2 t (rEqD t.K) gEq := by
  intro H O x y dx dy Q hO rx ry po
  unfold gEq at po
  by_cases hl : okEq dx = true ∧ okEq dy = true
  · simp only [if_pos hl] at po
    obtain ⟨a1, a2⟩ := okEq_dp rx hl.1
    obtain ⟨b1, b2⟩ := okEq_dp ry hl.2
    exact ⟨_, _, a1, b1, a2, b2, post_b po⟩
  · simp only [if_neg hl] at po
    exact False.elim po
theorem ok_ne : GOk2 t (rNeD t.K) gNe := by
  intro H O x y dx dy Q hO rx ry po
  unfold gNe at po
  by_cases hl : okEq dx = true ∧ okEq dy = true
  · simp only [if_pos hl] at po
    obtain ⟨a1, a2⟩ := okEq_dp rx hl.1
    obtain ⟨b1, b2⟩ := okEq_dp ry hl.2
    exact ⟨_, _, a1, b1, a2, b2, post_b po⟩
  · simp only [if_neg hl] at po
    exact False.elim po
/-! ### in -/
theorem flat_v {K : PySem.W.Frag} {H : Hp} {O : Addr → Prop} {v : V} {d : D} (r : Rp K H O v d) (h : flat d = true) : flatV v = true := by
  cases r <;> first | rfl | cases h
theorem eqv_flat {K : PySem.W.Frag} {H : Hp} {O : Addr → Prop} {v u : V} {d e : D} (r : Rp K H O v d) (q : Rp K H O u e) (h : flat d = true) (h' : flat e = true) : eqV v u = eqv d e := by
  cases r <;> first
    | cases h; done
    | (cases q <;> first
        | cases h'; done
        | simp [eqV, eqv, py, PyData.eqv])
theorem flat_all {K : PySem.W.Frag} {H : Hp} {O : Addr → Prop} : ∀ {vs : List V} {ds : List D}, RpL K H O vs ds → ds.all flat = true → vs.all flatV = true
  | _, _, .nil, _ => rfl
  | _, _, .cons r rs, h => by
    simp only [List.all_cons, Bool.and_eq_true] at h ⊢
    exact ⟨flat_v r h.1, flat_all rs h.2⟩
theorem inV_isIn {K : PySem.W.Frag} {H : Hp} {O : Addr → Prop} {v : V} {d : D} (r : Rp K H O v d) (h : flat d = true) : ∀ {vs : List V} {ds : List D}, RpL K H O vs ds → ds.all flat = true → inV v vs = isIn d ds
  | _, _, .nil, _ => rfl
  | _, _, .cons q qs, h' => by
    simp only [List.all_cons, Bool.and_eq_true] at h'
    have ih := inV_isIn r h qs h'.2
    unfold inV isIn at ih ⊢
    simp only [List.any_cons, ih, eqv_flat q r h'.1 h]
theorem ok_in (neg : Bool) : GOk2 t (rIn t.K neg) (gIn neg) := by
  intro H O x y dx dy Q hO rx ry po
  cases ry with
  | @lst a ys ds h1 n1 h2 =>
    unfold gIn at po
    by_cases hl : flat dx = true ∧ ds.all flat = true
    · simp only [if_pos hl] at po
      refine ⟨a, ys, rfl, .inl (SqL.of h1), flat_v rx hl.1, flat_all h2 hl.2, ?_⟩
      rw [inV_isIn rx hl.1 h2 hl.2]
      exact post_b po
    · simp only [if_neg hl] at po
      exact False.elim po
  | @tup a ys ds h1 h2 =>
    unfold gIn at po
    by_cases hl : flat dx = true ∧ ds.all flat = true
    · simp only [if_pos hl] at po
      refine ⟨a, ys, rfl, .inr h1, flat_v rx hl.1, flat_all h2 hl.2, ?_⟩
      rw [inV_isIn rx hl.1 h2 hl.2]
      exact post_b po
    · simp only [if_neg hl] at po
      exact False.elim po
  | _ => exact False.elim po
/-! ### subscripts -/
theorem rpl_at {K : PySem.W.Frag} {H : Hp} {O : Addr → Prop} {vs : List V} {ds : List D} {i : Int} {d : D} (r : RpL K H O vs ds) (h : atI ds i = some d) : ∃ v, atI vs i = some v ∧ Rp K H O v d := by
  unfold atI at h ⊢
  rw [r.len]
  cases q : ixN ds.length i with
  | none => rw [q] at h; cases h
  | some j =>
    rw [q] at h
    exact r.get h
theorem ok_ix : GOk2 t (rIx t.K) gIx := by
  intro H O x y dx dy Q hO rx ry po
  cases ry with
  | int i =>
    cases rx with
    | @lst a xs ds h1 n1 h2 =>
      unfold gIx at po
      cases q : atI ds i with
      | none => simp only [q] at po; exact False.elim po
      | some d =>
        simp only [q] at po
        obtain ⟨v, h3, h4⟩ := rpl_at h2 q
        exact .inl ⟨a, xs, i, v, rfl, rfl, SqL.of h1, h3, po.here h4⟩
    | @tup a xs ds h1 h2 =>
      unfold gIx at po
      cases q : atI ds i with
      | none => simp only [q] at po; exact False.elim po
      | some d =>
        simp only [q] at po
        obtain ⟨v, h3, h4⟩ := rpl_at h2 q
        exact .inr (.inl ⟨a, xs, i, v, rfl, rfl, h1, h3, po.here h4⟩)
    | @scr a ns h1 =>
      unfold gIx at po
      cases q : atI ns i with
      | none => simp only [q] at po; exact False.elim po
      | some n =>
        simp only [q] at po
        refine .inl ⟨a, ns.map V.int, i, .int n, rfl, rfl, h1.sql, ?_, post_i po⟩
        unfold atI at q ⊢
        rw [List.length_map]
        cases q' : ixN ns.length i with
        | none => rw [q'] at q; cases q
        | some j =>
          rw [q'] at q
          have q : ns[j]? = some n := q
          show (ns.map V.int)[j]? = some (.int n)
          rw [List.getElem?_map, q]; rfl
    | str z =>
      unfold gIx at po
      by_cases hl : z.length ≤ sizeLine
      · simp only [if_pos hl] at po
        cases q : atI z.cps.toList i with
        | none => simp only [q] at po; exact False.elim po
        | some c =>
          simp only [q] at po
          exact .inr (.inr ⟨z, i, c, rfl, rfl, hl, q, po.here (.str _)⟩)
      · simp only [if_neg hl] at po
        exact False.elim po
    | _ => exact False.elim po
  | _ => cases rx <;> exact False.elim po
end
/-! ### slices -/
def oP (t : Ctx) (m : Env → Rs (Option Int)) : TO := fun σ H Q => ∃ B O ow env, RE t.K B O ow σ H env ∧ match m env with
  | .ok o => ∀ H', Sm t.K.T H H' → Q o H'
  | .ex n a => ∀ C dx H', Sm t.K.T H H' → IsExc t n a C dx H' → t.E (.ref C) dx H'
  | .no => False
def oNone : Env → Rs (Option Int) := fun _ => .ok none
def oSome (m : Env → RD) : Env → Rs (Option Int) := fun env => (m env).bind fun x => match x.2 with
  | .int i => .ok (some i)
  | _ => .no
def eSl (m : Env → RD) (lo hi : Env → Rs (Option Int)) : Env → RD := fun env => (m env).bind fun x => (lo env).bind fun l => (hi env).bind fun h => gSl l h x.2
section
variable {X : Cx} {t : Ctx}
theorem _root_.L2.PO.imp {e : Option Expr} {t t' : TO} (h : PO X e t) (k : ∀ σ H Q, t' σ H Q → t σ H Q) : PO X e t' := ⟨fun pins s σ H Q I q => h.run pins s σ H Q I (k σ H Q q)⟩
theorem so_none : PO X none (oP t oNone) := po_none.imp fun σ H Q ⟨B, O, ow, env, re, q⟩ => q H (Sm.refl H)
theorem so_some {e : Expr} {R : List Nat} {m : Env → RD} (h : PE X e (eP t R m)) : PO X (some e) (oP t (oSome m)) := by
  refine (po_some h).imp fun σ H Q ⟨B, O, ow, env, re, q⟩ => ⟨B, O, ow, env, re, ?_⟩
  unfold oSome at q
  cases qm : m env with
  | ok z =>
    obtain ⟨fr, d⟩ := z
    rw [qm] at q
    intro v H1 s rv
    have r := rv.rp re.odx (O' := OwX O R ow) fun _ z => z
    cases d with
    | int i => cases r; exact ⟨i, rfl, q H1 s⟩
    | _ => exact False.elim q
  | ex n a => rw [qm] at q; exact q
  | no => rw [qm] at q; exact q
def rSlU (K : PySem.W.Frag) : V → Option Int → Option Int → Hp → VK → Prop := fun x lo hi H Q => rSlL K x lo hi H Q ∨ rSlA K x lo hi H Q
theorem sl_U : SlR X (rSlU X.K) := sl_list.or sl_tupA
theorem cutV_rp {K : PySem.W.Frag} {H : Hp} {O : Addr → Prop} {vs : List V} {ds : List D} {lo hi : Option Int} (r : RpL K H O vs ds) : RpL K H O (cutV vs lo hi) (cutD ds lo hi) := by
  unfold cutV cutD
  rw [r.len]
  exact (r.drop _).take _
theorem ok_sl {H : Hp} {O : Addr → Prop} {x : V} {dx : D} {lo hi : Option Int} {Q : VK} (hO : OD O H) (rx : Rp t.K H O x dx) (po : Post t H O (gSl lo hi dx) Q) : rSlU t.K x lo hi H Q := by
  cases rx with
  | @lst a xs ds h1 n1 h2 => exact .inl ⟨a, xs, rfl, SqL.of h1, newLst hO (cutV_rp h2) po⟩
  | @tup a xs ds h1 h2 =>
    refine .inr ⟨a, xs, rfl, h1, fun e => ?_, fun _ => newTup (cutV_rp h2) po⟩
    have e' : cutD ds lo hi = ds := by
      unfold cutD
      rw [h2.len] at e
      rw [e.1, e.2, List.drop_zero, Nat.sub_zero, List.take_length]
    have po : Post t H O (.ok (false, .tup (cutD ds lo hi))) Q := po
    rw [e'] at po
    exact po.here (.tup h1 h2)
  | _ => exact False.elim po
theorem se_slice {e : Expr} {lo hi : Option Expr} {pos p2 : Pos} {R : List Nat} {m : Env → RD} {ml mh : Env → Rs (Option Int)} (hK : t.K.K = X.K) (he : PE X e (eP t R m)) (hl : PO X lo (oP t ml)) (hh : PO X hi (oP t mh)) :
    PE X (.Subscript e (.Slice lo hi none p2) pos) (eP t R (eSl m ml mh)) := by
  refine (pe_slice (sl_U) he hl hh).imp fun σ H Q ⟨B, O, ow, env, re, po⟩ => ⟨B, O, ow, env, re, Post.bind1 po fun fr d v H1 _ s1 rv po1 => ?_⟩
  have re1 := re.same s1
  refine ⟨B, O, ow, env, re1, ?_⟩
  cases ql : ml env with
  | ok l =>
    rw [ql] at po1
    intro H2 s2
    have re2 := re1.same s2
    refine ⟨B, O, ow, env, re2, ?_⟩
    cases qh : mh env with
    | ok h =>
      rw [qh] at po1
      intro H3 s3
      rw [← hK]
      exact ok_sl (re2.same s3).odx (((rv.rp re.odx (fun _ z => z)).same s2).same s3) (Post.same (s2.trans s3) po1)
    | ex n a => rw [qh] at po1; exact Post.same (O := OwX O R ow) (r := .ex n a) (Q := Q) s2 po1
    | no => rw [qh] at po1; exact po1
  | ex n a => rw [ql] at po1; exact po1
  | no => rw [ql] at po1; exact po1
/-! ### built-in functions -/
def rLenU (K : PySem.W.Frag) : List V → Hp → VK → Prop := fun xs H Q => (∃ p ys, xs = [.ref p] ∧ (SqL K H p ys ∨ SqT K H p ys) ∧ Q (.int ys.length) H) ∨ (∃ z, xs = [.str z] ∧ z.length ≤ sizeLine ∧ Q (.int z.length) H)
theorem call_lenU : CallR X (.builtin "len") (rLenU X.K) := call_len_seq.or call_len_str
theorem one_of {K : PySem.W.Frag} {H : Hp} {O : Addr → Prop} {vs : List V} {d : D} (r : RpL K H O vs [d]) : ∃ v, vs = [v] ∧ Rp K H O v d := by
  cases r with
  | cons h hs => cases hs; exact ⟨_, rfl, h⟩
theorem two_of {K : PySem.W.Frag} {H : Hp} {O : Addr → Prop} {vs : List V} {d e : D} (r : RpL K H O vs [d, e]) : ∃ v u, vs = [v, u] ∧ Rp K H O v d ∧ Rp K H O u e := by
  cases r with
  | cons h hs =>
    obtain ⟨u, rfl, h2⟩ := one_of hs
    exact ⟨_, u, rfl, h, h2⟩
theorem ok_len : GOkN t (rLenU t.K) fLen := by
  intro H O xs ds Q hO rs po
  unfold fLen at po
  split at po
  · obtain ⟨v, rfl, r⟩ := one_of rs
    cases r with
    | @lst a xs ds h1 n1 h2 => exact .inl ⟨a, xs, rfl, .inl (SqL.of h1), by rw [h2.len]; exact post_i po⟩
  · obtain ⟨v, rfl, r⟩ := one_of rs
    cases r with
    | @tup a xs ds h1 h2 => exact .inl ⟨a, xs, rfl, .inr h1, by rw [h2.len]; exact post_i po⟩
  · rename_i z
    obtain ⟨v, rfl, r⟩ := one_of rs
    cases r
    by_cases hl : z.length ≤ sizeLine
    · rw [if_pos hl] at po; exact .inr ⟨z, rfl, hl, post_i po⟩
    · rw [if_neg hl] at po; exact False.elim po
  · rename_i ns
    obtain ⟨v, rfl, r⟩ := one_of rs
    cases r with
    | @scr a ns h1 => exact .inl ⟨a, _, rfl, .inl h1.sql, by rw [List.length_map]; exact post_i po⟩
  · exact False.elim po
def rAbs : List V → Hp → VK → Prop := fun xs H Q => ∃ i, xs = [.int i] ∧ Q (.int (if i < 0 then -i else i)) H
theorem ok_abs : GOkN t rAbs fAbs := by
  intro H O xs ds Q hO rs po
  unfold fAbs at po
  split at po
  · obtain ⟨v, rfl, r⟩ := one_of rs
    cases r
    exact ⟨_, rfl, post_i po⟩
  · exact False.elim po
def rMax2 : List V → Hp → VK → Prop := fun xs H Q => ∃ i j, xs = [.int i, .int j] ∧ Q (.int (if j > i then j else i)) H
def rMin2 : List V → Hp → VK → Prop := fun xs H Q => ∃ i j, xs = [.int i, .int j] ∧ Q (.int (if j < i then j else i)) H
theorem ok_max : GOkN t rMax2 fMax := by
  intro H O xs ds Q hO rs po
  unfold fMax at po
  split at po
  · obtain ⟨v, u, rfl, r1, r2⟩ := two_of rs
    cases r1; cases r2
    exact ⟨_, _, rfl, post_i po⟩
  · exact False.elim po
theorem ok_min : GOkN t rMin2 fMin := by
  intro H O xs ds Q hO rs po
  unfold fMin at po
  split at po
  · obtain ⟨v, u, rfl, r1, r2⟩ := two_of rs
    cases r1; cases r2
    exact ⟨_, _, rfl, post_i po⟩
  · exact False.elim po
def rInt : List V → Hp → VK → Prop := fun xs H Q => (∃ i, xs = [.int i] ∧ Q (.int i) H) ∨ ∃ k, xs = [.bl k] ∧ Q (.int (if k then 1 else 0)) H
theorem ok_int : GOkN t rInt fInt := by
  intro H O xs ds Q hO rs po
  unfold fInt at po
  split at po
  · obtain ⟨v, rfl, r⟩ := one_of rs
    cases r
    exact .inl ⟨_, rfl, post_i po⟩
  · obtain ⟨v, rfl, r⟩ := one_of rs
    cases r
    exact .inr ⟨_, rfl, post_i po⟩
  · exact False.elim po
def rStrI : List V → Hp → VK → Prop := fun xs H Q => ∃ i, xs = [.int i] ∧ i.natAbs.log2 < 1920 ∧ Q (.str (toString i)) H
theorem ok_str : GOkN t rStrI fStr := by
  intro H O xs ds Q hO rs po
  unfold fStr at po
  split at po
  · rename_i i
    obtain ⟨v, rfl, r⟩ := one_of rs
    cases r
    by_cases hl : i.natAbs.log2 < 1920
    · rw [if_pos hl] at po; exact ⟨_, rfl, hl, po.here (.str _)⟩
    · rw [if_neg hl] at po; exact False.elim po
  · exact False.elim po
def rListS (K : PySem.W.Frag) : List V → Hp → VK → Prop := fun xs H Q => ∃ p ys, xs = [.ref p] ∧ (SqL K H p ys ∨ SqT K H p ys) ∧ ∀ l, H l = none → Q (.ref l) (upd H l (.lst ys))
theorem ok_list : GOkN t (rListS t.K) fList := by
  intro H O xs ds Q hO rs po
  unfold fList at po
  split at po
  · obtain ⟨v, rfl, r⟩ := one_of rs
    cases r with
    | @lst a xs ds h1 n1 h2 => exact ⟨a, xs, rfl, .inl (SqL.of h1), newLst hO h2 po⟩
  · obtain ⟨v, rfl, r⟩ := one_of rs
    cases r with
    | @tup a xs ds h1 h2 => exact ⟨a, xs, rfl, .inr h1, newLst hO h2 po⟩
  · exact False.elim po
def rTupS (K : PySem.W.Frag) : List V → Hp → VK → Prop := fun xs H Q => ∃ p ys, xs = [.ref p] ∧ ((SqL K H p ys ∧ ∀ l, H l = none → Q (.ref l) (upd H l (.tup ys))) ∨ (SqT K H p ys ∧ Q (.ref p) H))
theorem ok_tuple : GOkN t (rTupS t.K) fTuple := by
  intro H O xs ds Q hO rs po
  unfold fTuple at po
  split at po
  · obtain ⟨v, rfl, r⟩ := one_of rs
    cases r with
    | @lst a xs ds h1 n1 h2 => exact ⟨a, xs, rfl, .inl ⟨SqL.of h1, newTup h2 po⟩⟩
  · obtain ⟨v, rfl, r⟩ := one_of rs
    cases r with
    | @tup a xs ds h1 h2 => exact ⟨a, xs, rfl, .inr ⟨h1, po.here (.tup h1 h2)⟩⟩
  · exact False.elim po
/-! ### isinstance -/
theorem tyX_of {K : PySem.W.Frag} {H : Hp} {O : Addr → Prop} {v : V} {d : D} {s : String} (r : Rp K H O v d) (h : tyOf d = some s) : TyX K H v (.type s) := by
  cases r with
  | non => cases h; exact .base .non
  | bl b => cases h; exact .base (.bl b)
  | int i => cases h; exact .base (.int i)
  | str x => cases h; exact .base (.str x)
  | raw hs => cases h
  | scr hs =>
    cases h
    rcases hs with ⟨o, hs⟩ | ⟨o, its, n, h1, h2, _⟩
    · exact .base (.frz hs)
    · exact .kList h1 h2
  | lst h1 _ _ => cases h; exact .base (.lst h1)
  | tup h1 _ =>
    cases h
    rcases h1 with (h1 | ⟨o, h1⟩) | ⟨o, its, n, h1, h2, _⟩
    · exact .base (.tup h1)
    · exact .fTuple h1
    · exact .kTuple h1 h2
  | dct h1 _ _ => cases h; exact .base (.dK h1)
def eIsi (T : String) (m : Env → RD) : Env → RD := fun env => (m env).bind fun x => fIsi T x.2
theorem se_isi {e : Expr} {x : Str} {p p2 pos : Pos} {T : String} {R : List Nat} {m : Env → RD} (hK : t.K.K = X.K) (hgi : Gl X "isinstance") (hmi : X.mg "isinstance" = none) (hg : Gl X x) (hm : X.mg x = none) (hv : bootBuiltins x = some (.type T)) (he : PE X e (eP t R m))
    (hn : x ≠ "__name__" := by decide) (hdb : (x == ("__debug__" : Str)) = false := by decide) (h1 : starEach [e, .Name x p2] X.env = (false, eval e X.env) :: starEach [.Name x p2] X.env := by rfl) (h2 : starEach [.Name x p2] X.env = (false, eval (.Name x p2) X.env) :: starEach [] X.env := by rfl)
    (h3 : (backTo pos (starEach [.Name x p2] X.env)).any (·.1) = false := by rfl) : PE X (.Call (.Name "isinstance" p) [e, .Name x p2] [] pos) (eP t R (eIsi T m)) := by
  refine (pe_callB call_isi hgi hmi (by decide +kernel) (pa_cons he (pa_cons (pe_bltn (v := .ty T) hg hm hv rfl hn hdb) pa_nil h2) h1) (by decide) (by decide) h1 h3).imp fun σ H Q ⟨B, O, ow, env, re, po⟩ => ⟨B, O, ow, env, re, Post.bind1 po fun fr d v H1 _ s1 rv po1 => ?_⟩
  have r := rv.rp re.odx (O' := OwX O R ow) fun _ z => z
  unfold fIsi at po1
  cases q : tyOf d with
  | none => simp only [q] at po1; exact False.elim po1
  | some s =>
    simp only [q] at po1
    cases q2 : kitB s T with
    | none => simp only [q2] at po1; exact False.elim po1
    | some b =>
      simp only [q2] at po1
      exact ⟨v, .ty T, .type s, .type T, b, rfl, .ty T, by rw [← hK]; exact tyX_of r q, kit_ty q2, post_b po1⟩
end
end S

/-! lists that are changed -/
namespace S
open PySem L2 PySem.Spec PyProof.Rows

def mApp (i : Nat) (m : Env → RD) : Env → Out := fun env => match env[i]? with
  | some (some (true, .lst ds)) => mOf (m env) fun fr d => if ds.length < sizeLine then (if lf d = true then .nx (env.set i (some (true, .lst (ds ++ [d])))) else if fr = true then .nx (env.set i (some (true, .lst (ds ++ [d])))) else .no) else .no
  | _ => .no
def mPop (i : Nat) : Env → Out := fun env => match env[i]? with
  | some (some (true, .lst ds)) => if lfL ds = true then (match ds.getLast? with
    | some d => .nx (env.set i (some (true, .lst ds.dropLast)))
    | none => .no) else .no
  | _ => .no
def mSetPop (j i : Nat) : Env → Out := fun env => match env[i]? with
  | some (some (true, .lst ds)) => if lfL ds = true then (match ds.getLast? with
    | some d => .nx ((env.set i (some (true, .lst ds.dropLast))).set j (some (false, d)))
    | none => .no) else .no
  | _ => .no
def mExt (i : Nat) (m : Env → RD) : Env → Out := fun env => match env[i]? with
  | some (some (true, .lst ds)) => mOf (m env) fun _ d => match d with
    | .lst es => if lfL es = true ∧ ds.length + es.length ≤ sizeLine then .nx (env.set i (some (true, .lst (ds ++ es)))) else .no
    | .tup es => if lfL es = true ∧ ds.length + es.length ≤ sizeLine then .nx (env.set i (some (true, .lst (ds ++ es)))) else .no
    | _ => .no
  | _ => .no
def mAug (i : Nat) (m : Env → RD) : Env → Out := fun env => match env[i]? with
  | some (some (_, .int a)) => mOf (m env) fun _ d => match d with
    | .int b => .nx (env.set i (some (false, .int (a + b))))
    | _ => .no
  | some (some (_, .str a)) => mOf (m env) fun _ d => match d with
    | .str b => if a.length + b.length ≤ sizeLine then .nx (env.set i (some (false, .str (a ++ b)))) else .no
    | _ => .no
  | some (some (true, .lst ds)) => mOf (m env) fun _ d => match d with
    | .lst es => if lfL es = true ∧ ds.length + es.length ≤ sizeLine then .nx (env.set i (some (true, .lst (ds ++ es)))) else .no
    | _ => .no
  | _ => .no
def mClear (i : Nat) : Env → Out := fun env => match env[i]? with
  | some (some (true, .lst _)) => .nx (env.set i (some (true, .lst [])))
  | _ => .no
def mRev (i : Nat) : Env → Out := fun env => match env[i]? with
  | some (some (true, .lst ds)) => if lfL ds = true then .nx (env.set i (some (true, .lst ds.reverse))) else .no
  | _ => .no
def mStore (i : Nat) (mi mv : Env → RD) : Env → Out := fun env => match env[i]? with
  | some (some (true, .lst ds)) => mOf (mv env) fun _ d => mOf (mi env) fun _ k => match k with
    | .int k => if lf d = true ∧ lfL ds = true then (match ixN ds.length k with
      | some p => .nx (env.set i (some (true, .lst (ds.set p d))))
      | none => .no) else .no
    | _ => .no
  | _ => .no

theorem ext_tup (l : Addr) (items : Array Value) (n : Nat) (b : Addr) (items2 : Array Value) (n2 : Nat) (dd : Option Addr) (sl : Array (Option Value)) (hs0 : ¬(!items.isEmpty && Builtin.List.listTooLong (items.size + items2.size)) = true) (hs1 : items.size ≤ sizeLine) (hs2 : items.size + items2.size ≤ sizeLine + 1) :
    Meets (Builtin.«list.extend» ⟨[.ref l, .ref b], []⟩) (fun _ R s => s.heap.get? l = some { cls := .type "list", dict := none, data := .seq items n, slots := #[] } ∧ s.heap.get? b = some { cls := .type "tuple", dict := dd, data := .seq items2 n2, slots := sl } ∧
      R (.ok (.ret Value.none)) { s with heap := s.heap.update l (Obj.mapSeq fun x => x ++ items2), toks := s.toks }) :=
  .of_wp fun prog w A R s h => by
    obtain ⟨hp, g, d, tk, os⟩ := s
    obtain ⟨hl, hb, h⟩ := h
    have f1 := AutoSeq1.idx_int
    have f2 := AutoSeq1.sub_tuple_tuple
    have f3 := AutoSeq1.sub_list_list
    have f4 := AutoSeq1.sub_tuple_list
    have f5 := AutoSeq1.sub_list_tuple
    have hz' : (items ++ items2).size ≤ sizeLine + 1 := by rw [Array.size_append]; exact hs2
    wp_walk using (wpAny_updateSeq hl rfl (hz := hs1) (_hz' := hz')), wpAny_loadPart' hl, wpAny_loadPart' hb
    exact ⟨_, rfl, h⟩
def rExtT (K : PySem.W.Frag) : V → List V → Hp → VK → Prop := fun x vs H Q => ∃ l b xs zs, x = .ref l ∧ vs = [.ref b] ∧ H l = some (.lst xs) ∧ SqT K H b zs ∧ xs.length + zs.length ≤ sizeLine ∧ Q .non (upd H l (.lst (xs ++ zs)))
section
variable {X : Cx}
theorem mt_extT : MtM X "list.extend" (rExtT X.K) := by
  intro pins s σ H x vs v us Q I rx rv h
  obtain ⟨l, b, xs, zs, rfl, rfl, hH, hB, hz, q⟩ := h
  cases rx
  obtain ⟨u, rfl, ru⟩ := rv.one
  cases ru
  obtain ⟨z, its, n, r, hl, e⟩ := I.lstM hH
  obtain ⟨its2, r2, ⟨⟨cls, dd, data, sl⟩, ho, hc, n2, hd⟩, hz2⟩ := I.tuple hB
  simp only at hc hd
  subst hc hd
  have hl2 := r2.length
  have hsz : its.toArray.size + its2.toArray.size ≤ sizeLine := by rw [List.size_toArray, List.size_toArray]; omega
  have hlong : ¬ (!its.toArray.isEmpty && Builtin.List.listTooLong (its.toArray.size + its2.toArray.size)) = true := by
    rw [notLongL hsz, Bool.and_false]
    exact Bool.false_ne_true
  refine call_meets F.slot_list_extend ⟨_, e, rfl⟩ F.entry_list_extend (F.args_list_extend_2 _ _)
    (ext_tup l its.toArray n b its2.toArray n2 dd sl hlong (by rw [List.size_toArray]; omega) (by omega)) ⟨e, ho, ?_⟩
  refine ⟨.non, _, I.lset (its' := its ++ its2) hH e (by simp) (r.append r2) ?_, rfl, q⟩
  rw [List.length_append]
  omega
def rExtU (K : PySem.W.Frag) : V → List V → Hp → VK → Prop := fun x vs H Q => rExtend x vs H Q ∨ rExtT K x vs H Q
theorem mt_extU : MtM X "list.extend" (rExtU X.K) := fun pins s σ H x vs v us Q I rx rv h => h.elim (fun h => mt_extend pins s σ H x vs v us Q I rx rv h) (fun h => mt_extT pins s σ H x vs v us Q I rx rv h)
end

section
variable {K : KT} {B H H1 : Hp} {O : Addr → Prop} {ow : Nat → List Addr} {σ : L2.St} {env : Env} {i : Nat} {ds : List D}
/-- slot i's own list -/
theorem RE.lst (re : RE K B O ow σ H env) (e : env[i]? = some (some (true, .lst ds))) : ∃ a xs F, σ[i]? = some (some (.ref a)) ∧ ow i = a :: F ∧ H a = some (.lst xs) ∧ TrL K H F xs ds ∧ a ∉ F ∧ i < env.length := by
  obtain ⟨v, h1, h2⟩ := re.tr i _ e
  generalize ho : ow i = G at h2
  cases h2 with
  | @lst F a xs _ h hs hn => exact ⟨a, xs, F, h1, rfl, h, hs, hn, (List.getElem?_eq_some_iff.mp e).1⟩

theorem firm_upd {T : List (Addr × Str)} {a : Addr} {o o' : HO} (s : Sm T H H1) (h : H a = some o) (m : LD o) : Firm H (upd H1 a o') := fun b u n nt e => by
  rw [upd_ne (fun z => by subst z; rw [h] at e; cases e; exact n m)]; exact s.keep _ _ nt e
/-- items are put behind -/
theorem RE.app {a : Addr} {xs ys : List V} {es : List D} {F G : List Addr} (re : RE K B O ow σ H env) (s : Sm K.T H H1) (hv : σ[i]? = some (some (.ref a))) (hw : ow i = a :: F) (ha : H a = some (.lst xs)) (T : TrL K H F xs ds) (hn : a ∉ F) (hi : i < env.length)
    (T2 : TrL K H1 G ys es) (hG : ∀ b ∈ G, Fr H b) : ∃ ow', RE K B O ow' σ (upd H1 a (.lst (xs ++ ys))) (env.set i (some (true, .lst (ds ++ es)))) := by
  have nG : a ∉ G := fun m => hG a m _ nt_lst ha
  have fi : Firm H (upd H1 a (.lst (xs ++ ys))) := firm_upd s ha trivial
  have T' : TrL K (upd H1 a (.lst (xs ++ ys))) F xs ds := T.carry (fun b m u nt e => by rw [upd_ne (fun z => by subst z; exact hn m)]; exact s.keep _ _ nt e) fi
  have T2' : TrL K (upd H1 a (.lst (xs ++ ys))) G ys es := T2.carry (fun b m u _ e => by rw [upd_ne (fun z => by subst z; exact nG m)]; exact e) (firm_upd (Sm.refl (T := K.T) H1) (s.keep _ _ nt_lst ha) trivial)
  have dj : ∀ b ∈ F, b ∉ G := fun b m z => by
    obtain ⟨_, u, h, q⟩ := re.own i b (by rw [hw]; exact List.mem_cons_of_mem _ m)
    exact hG b z u (mut_nt q) h
  have tr : Tr K (upd H1 a (.lst (xs ++ ys))) (a :: (F ++ G)) (.ref a) (.lst (ds ++ es)) := .lst upd_same (T'.append T2' dj) fun m => (List.mem_append.mp m).elim hn nG
  refine ⟨_, re.mutate (i := i) (d := .lst ds) hv hi (fun b u n nt e => ?_) (tabs_upd (s.keep _ _ nt_lst ha) trivial (s.tabs re.tabs)) tr fun b m => ?_⟩
  · rw [upd_ne (fun z => n (by rw [hw, z]; exact List.mem_cons_self))]; exact s.keep _ _ nt e
  · rcases List.mem_cons.mp m with rfl | m
    · exact .inl (by rw [hw]; exact List.mem_cons_self)
    · rcases List.mem_append.mp m with m | m
      · exact .inl (by rw [hw]; exact List.mem_cons_of_mem _ m)
      · exact .inr (hG b m)
/-- the list is another one, of things without lists -/
theorem RE.put {a : Addr} {xs ys : List V} {es : List D} {F : List Addr} {O' : Addr → Prop} (re : RE K B O ow σ H env) (s : Sm K.T H H1) (hv : σ[i]? = some (some (.ref a))) (hw : ow i = a :: F) (ha : H a = some (.lst xs)) (hi : i < env.length)
    (r : RpL K H1 O' ys es) (hl : lfL es = true) : ∃ ow', RE K B O ow' σ (upd H1 a (.lst ys)) (env.set i (some (true, .lst es))) := by
  have T2 : TrL K (upd H1 a (.lst ys)) [] ys es := (r.tr hl).carry (fun b m => nomatch m) (firm_upd (Sm.refl (T := K.T) H1) (s.keep _ _ nt_lst ha) trivial)
  have tr : Tr K (upd H1 a (.lst ys)) [a] (.ref a) (.lst es) := .lst upd_same T2 (fun z => nomatch z)
  refine ⟨_, re.mutate (i := i) (d := .lst es) hv hi (fun b u n nt e => ?_) (tabs_upd (s.keep _ _ nt_lst ha) trivial (s.tabs re.tabs)) tr fun b m => ?_⟩
  · rw [upd_ne (fun z => n (by rw [hw, z]; exact List.mem_cons_self))]; exact s.keep _ _ nt e
  · exact .inl (by rw [hw, List.mem_singleton.mp m]; exact List.mem_cons_self)
theorem RE.items (re : RE K B O ow σ H env) {a : Addr} {xs : List V} {F : List Addr} (hw : ow i = a :: F) (T : TrL K H F xs ds) : RpL K H O xs ds := T.rp fun b m z => re.notO (i := i) (by rw [hw]; exact List.mem_cons_of_mem _ m) z
end
theorem lfL_app {xs ys : List D} : lfL (xs ++ ys) = (lfL xs && lfL ys) := by
  induction xs with
  | nil => simp [lfL]
  | cons x xs ih => simp [lfL, ih, Bool.and_assoc]
theorem lfL_take {xs : List D} (h : lfL xs = true) (n : Nat) : lfL (xs.take n) = true := by
  induction xs generalizing n with
  | nil => simp [lfL]
  | cons x xs ih =>
    cases n with
    | zero => simp [lfL]
    | succ n =>
      simp only [lfL, Bool.and_eq_true, List.take_succ_cons] at h ⊢
      exact ⟨h.1, ih h.2 n⟩
theorem lfL_drop {xs : List D} (h : lfL xs = true) (n : Nat) : lfL (xs.drop n) = true := by
  induction xs generalizing n with
  | nil => simp [lfL]
  | cons x xs ih =>
    cases n with
    | zero => simpa using h
    | succ n =>
      simp only [lfL, Bool.and_eq_true] at h
      exact ih h.2 n
theorem lfL_all {xs : List D} : lfL xs = xs.all lf := by
  induction xs with
  | nil => rfl
  | cons x xs ih => simp [lfL, ih]
theorem lfL_set {xs : List D} {d : D} (h : lfL xs = true) (hd : lf d = true) (n : Nat) : lfL (xs.set n d) = true := by
  induction xs generalizing n with
  | nil => simp [lfL]
  | cons x xs ih =>
    simp only [lfL, Bool.and_eq_true] at h
    cases n with
    | zero => simp [lfL, hd, h.2]
    | succ n => simp [lfL, h.1, ih h.2 n]
theorem lfL_rev {xs : List D} (h : lfL xs = true) : lfL xs.reverse = true := by
  rw [lfL_all] at h ⊢
  rw [List.all_reverse]; exact h
section
variable {X : Cx} {t : Ctx} {i : Nat} {R R' : List Nat} {m m' : Env → RD} {call : Expr} {pos : Pos}
theorem tyL {K : PySem.W.Frag} {H : Hp} {a : Addr} {xs : List V} (h : H a = some (.lst xs)) : tyV K "list" (.ref a) H := .inl ⟨rfl, xs, SqL.of h⟩
theorem ss_app (hK : t.K.K = X.K) (h : PE X call (tBM X.K "list" rAppend (tVar i) (tCons (eP t R m) tNil))) (hs : swapsWith call none pos.line X.env = pure false := by rfl) : PS X (.Expr call pos) (sP t (mApp i m)) := by
  refine (ps_expr h hs).imp fun D σ H ⟨B, O, ow, env, re, o⟩ => ?_
  unfold mApp at o
  split at o
  · rename_i ds e
    obtain ⟨a, xs, F, hv, hw, ha, T, hn, hi⟩ := re.lst e
    refine ⟨.ref a, hv, tyL ha, B, O, ow, env, re, mOf_read re.ext o fun fr d v H1 s rv o1 => ?_⟩
    by_cases hl : ds.length < sizeLine
    · simp only [if_pos hl] at o1
      refine ⟨a, xs, v, rfl, rfl, s.keep _ _ nt_lst ha, by rw [T.len]; exact hl, ?_⟩
      by_cases hd : lf d = true
      · simp only [if_pos hd] at o1
        have T2 : TrL t.K H1 ([] ++ []) [v] [d] := .cons ((rv.rp re.odx (O' := OwX O R ow) fun _ z => z).tr hd) .nil (fun _ z => nomatch z)
        obtain ⟨ow', re'⟩ := re.app s hv hw ha T hn hi T2 (fun _ z => nomatch z)
        exact o1 ow' σ _ re'
      · simp only [if_neg hd] at o1
        cases fr with
        | true =>
          simp only [if_true] at o1
          obtain ⟨G, h1, h2⟩ := rv
          have T2 : TrL t.K H1 (G ++ []) [v] [d] := .cons h1 .nil (fun _ _ z => nomatch z)
          obtain ⟨ow', re'⟩ := re.app s hv hw ha T hn hi T2 (fun b z => h2 b (by simpa using z))
          exact o1 ow' σ _ re'
        | false => simp at o1; exact o1.elim
    · simp only [if_neg hl] at o1; exact o1.elim
  · exact o.elim
theorem ss_ext (hK : t.K.K = X.K) (h : PE X call (tBM X.K "list" (rExtU X.K) (tVar i) (tCons (eP t R m) tNil))) (hs : swapsWith call none pos.line X.env = pure false := by rfl) : PS X (.Expr call pos) (sP t (mExt i m)) := by
  refine (ps_expr h hs).imp fun D σ H ⟨B, O, ow, env, re, o⟩ => ?_
  unfold mExt at o
  split at o
  · rename_i ds e
    obtain ⟨a, xs, F, hv, hw, ha, T, hn, hi⟩ := re.lst e
    refine ⟨.ref a, hv, tyL ha, B, O, ow, env, re, mOf_read re.ext o fun fr d v H1 s rv o1 => ?_⟩
    have r := rv.rp re.odx (O' := OwX O R ow) fun _ z => z
    cases r with
    | @lst b ys es h1 n1 h2 =>
      by_cases hl : lfL es = true ∧ ds.length + es.length ≤ sizeLine
      · simp only [if_pos hl] at o1
        obtain ⟨ow', re'⟩ := re.app s hv hw ha T hn hi (h2.tr hl.1) (fun _ z => nomatch z)
        exact .inl ⟨a, b, xs, ys, rfl, rfl, s.keep _ _ nt_lst ha, h1, by rw [T.len, h2.len]; exact hl.2, o1 ow' σ _ re'⟩
      · simp only [if_neg hl] at o1; exact o1.elim
    | @tup b ys es h1 h2 =>
      by_cases hl : lfL es = true ∧ ds.length + es.length ≤ sizeLine
      · simp only [if_pos hl] at o1
        obtain ⟨ow', re'⟩ := re.app s hv hw ha T hn hi (h2.tr hl.1) (fun _ z => nomatch z)
        exact .inr ⟨a, b, xs, ys, rfl, rfl, s.keep _ _ nt_lst ha, by rw [← hK]; exact h1, by rw [T.len, h2.len]; exact hl.2, o1 ow' σ _ re'⟩
      · simp only [if_neg hl] at o1; exact o1.elim
    | _ => exact o1.elim
  · exact o.elim
theorem getLast_at {α : Type} {xs : List α} {x : α} (h : xs.getLast? = some x) : xs[xs.length - 1]? = some x := by rw [← List.getLast?_eq_getElem?]; exact h
theorem pop_read {B H : Hp} {O : Addr → Prop} {ow : Nat → List Addr} {σ : L2.St} {env : Env} {ds : List S.D} {d : S.D} {Q : VK} {K : PySem.W.Frag} (hK : t.K = K) (re : RE t.K B O ow σ H env) (e : env[i]? = some (some (true, .lst ds))) (hl : lfL ds = true) (hd : ds.getLast? = some d)
    (k : ∀ v a ow' H1, σ[i]? = some (some (.ref a)) → Rp t.K H1 (Ow O ow') v d → RE t.K B O ow' σ H1 (env.set i (some (true, .lst ds.dropLast))) → Q v H1) : tBM0 K "list" rPop (tVar i) σ H Q := by
  obtain ⟨a, xs, F, hv, hw, ha, T, hn, hi⟩ := re.lst e
  have ri := re.items hw T
  obtain ⟨v, h1, h2⟩ := ri.get (getLast_at hd)
  have hdl : lfL ds.dropLast = true := by rw [List.dropLast_eq_take]; exact lfL_take hl _
  have hx : ds.dropLast = ds.take (ds.length - 1) := List.dropLast_eq_take
  have hxs : xs.dropLast = xs.take (ds.length - 1) := by rw [List.dropLast_eq_take, T.len]
  have rd : RpL t.K H O xs.dropLast ds.dropLast := by rw [hx, hxs]; exact ri.take _
  obtain ⟨ow', re'⟩ := re.put (Sm.refl H) hv hw ha hi rd hdl
  have hld : lf d = true := by
    rw [lfL_all] at hl
    exact List.all_eq_true.mp hl d (List.mem_of_getLast? hd)
  refine ⟨.ref a, hv, tyL ha, a, xs, v, rfl, rfl, ha, by rw [T.len]; exact h1, k v a ow' _ hv ?_ re'⟩
  have T0 : Tr t.K H [] v d := h2.tr hld
  have T1 : Tr t.K (upd H a (.lst xs.dropLast)) [] v d := T0.carry (fun b m => absurd m (by simp)) (firm_upd (Sm.refl (T := []) H) ha trivial)
  exact T1.rp fun b m => absurd m (by simp)
theorem ss_pop (hK : t.K.K = X.K) (h : PE X call (tBM0 X.K "list" rPop (tVar i))) (hs : swapsWith call none pos.line X.env = pure false := by rfl) : PS X (.Expr call pos) (sP t (mPop i)) := by
  refine (ps_expr h hs).imp fun D σ H ⟨B, O, ow, env, re, o⟩ => ?_
  unfold mPop at o
  split at o
  · rename_i ds e
    by_cases hl : lfL ds = true
    · simp only [if_pos hl] at o
      cases hd : ds.getLast? with
      | none => simp only [hd] at o; exact o.elim
      | some d =>
        simp only [hd] at o
        exact pop_read hK re e hl hd fun v a ow' H1 _ _ re' => o ow' σ H1 re'
    · simp only [if_neg hl] at o; exact o.elim
  · exact o.elim
theorem ss_setPop {j : Nat} {x : Str} {pos' : Pos} (hK : t.K.K = X.K) (h : PE X call (tBM0 X.K "list" rPop (tVar i))) (hN : X.N.Nodup) (hj : X.N[j]? = some x) (hx : Loc X.env.scope x) (hs : swapsWith call (some (.Name x pos')) pos.line X.env = pure false := by rfl)
    (hf : X.fn x = true ∨ X.env.scope.names.lookup x = some .local := by first | exact .inl rfl | exact .inr rfl | assumption) : PS X (.Assign [.Name x pos'] call pos) (sP t (mSetPop j i)) := by
  refine (ps_set hN hj hx h hs hf).imp fun D σ H ⟨B, O, ow, env, re, o⟩ => ?_
  unfold mSetPop at o
  split at o
  · rename_i ds e
    by_cases hl : lfL ds = true
    · simp only [if_pos hl] at o
      cases hd : ds.getLast? with
      | none => simp only [hd] at o; exact o.elim
      | some d =>
        simp only [hd] at o
        refine pop_read hK re e hl hd fun v a ow' H1 _ r re' => ?_
        have hld : lf d = true := by
          rw [lfL_all] at hl
          exact List.all_eq_true.mp hl d (List.mem_of_getLast? hd)
        exact o _ _ H1 (re'.putF (Sm.refl H1) (r.free hld))
    · simp only [if_neg hl] at o; exact o.elim
  · exact o.elim
/-! ### x op= e -/
def ipU : TIp := fun x y H Q => rI0 (fun i j => .int (i + j)) x y H Q ∨ (rExt2 x y H Q ∨ rStrCat x y H Q)
theorem ip_U : PIp X .Add ipU := (iop_add.or (iop_ext.or iop_add_str) : OpR X (inplaceOp .Add) _)
theorem ss_aug {e : Expr} {x : Str} {pos' : Pos} (hN : X.N.Nodup) (hi : X.N[i]? = some x) (hx : Loc X.env.scope x) (he : PE X e (eP t R m)) (hf : X.fn x = true ∨ X.env.scope.names.lookup x = some .local := by first | exact .inl rfl | exact .inr rfl | assumption) :
    PS X (.AugAssign (.Name x pos') .Add e pos) (sP t (mAug i m)) := by
  refine (ps_aug hN hi hx he ip_U hf).imp fun D σ H ⟨B, O, ow, env, re, o⟩ => ?_
  unfold mAug at o
  split at o
  · rename_i fl a e
    have hv : σ[i]? = some (some (.int a)) := by
      cases fl with
      | false => obtain ⟨v, h1, h2⟩ := re.fz i _ e; cases h2; exact h1
      | true => obtain ⟨v, h1, h2⟩ := re.tr i _ e; generalize ow i = G at h2; cases h2; exact h1
    refine ⟨.int a, hv, B, O, ow, env, re, mOf_read re.ext o fun fr d v H1 s rv o1 => ?_⟩
    have r := rv.rp re.odx (O' := OwX O R ow) fun _ z => z
    cases r with
    | int b => exact .inl ⟨a, b, rfl, rfl, o1 _ _ H1 (re.putF s (.int _))⟩
    | _ => exact o1.elim
  · rename_i fl a e
    have hv : σ[i]? = some (some (.str a)) := by
      cases fl with
      | false => obtain ⟨v, h1, h2⟩ := re.fz i _ e; cases h2; exact h1
      | true => obtain ⟨v, h1, h2⟩ := re.tr i _ e; generalize ow i = G at h2; cases h2; exact h1
    refine ⟨.str a, hv, B, O, ow, env, re, mOf_read re.ext o fun fr d v H1 s rv o1 => ?_⟩
    have r := rv.rp re.odx (O' := OwX O R ow) fun _ z => z
    cases r with
    | str b =>
      by_cases hl : a.length + b.length ≤ sizeLine
      · simp only [if_pos hl] at o1
        exact .inr (.inr ⟨a, b, rfl, rfl, hl, o1 _ _ H1 (re.putF s (.str _))⟩)
      · simp only [if_neg hl] at o1; exact o1.elim
    | _ => exact o1.elim
  · rename_i ds e
    obtain ⟨a, xs, F, hv, hw, ha, T, hn, hi⟩ := re.lst e
    refine ⟨.ref a, hv, B, O, ow, env, re, mOf_read re.ext o fun fr d v H1 s rv o1 => ?_⟩
    have r := rv.rp re.odx (O' := OwX O R ow) fun _ z => z
    cases r with
    | @lst b ys es h1 n1 h2 =>
      by_cases hl : lfL es = true ∧ ds.length + es.length ≤ sizeLine
      · simp only [if_pos hl] at o1
        obtain ⟨ow', re'⟩ := re.app s hv hw ha T hn hi (h2.tr hl.1) (fun _ z => nomatch z)
        refine .inr (.inl ⟨a, b, xs, ys, rfl, rfl, s.keep _ _ nt_lst ha, h1, by rw [T.len, h2.len]; exact hl.2, ?_⟩)
        have e2 : σ.set i (some (.ref a)) = σ := by
          obtain ⟨h1, h2⟩ := List.getElem?_eq_some_iff.mp hv
          rw [← h2]
          exact List.set_getElem_self h1
        show D.nx (σ.set i (some (.ref a))) _
        rw [e2]
        exact o1 ow' σ _ re'
      · simp only [if_neg hl] at o1; exact o1.elim
    | _ => exact o1.elim
  · exact o.elim
/-! ### clear, reverse, a store -/
theorem ss_clear (h : PE X call (tBM0 X.K "list" rClear (tVar i))) (hs : swapsWith call none pos.line X.env = pure false := by rfl) : PS X (.Expr call pos) (sP t (mClear i)) := by
  refine (ps_expr h hs).imp fun D σ H ⟨B, O, ow, env, re, o⟩ => ?_
  unfold mClear at o
  split at o
  · rename_i ds e
    obtain ⟨a, xs, F, hv, hw, ha, T, hn, hi⟩ := re.lst e
    obtain ⟨ow', re'⟩ := re.put (O' := O) (es := []) (Sm.refl H) hv hw ha hi .nil rfl
    exact ⟨.ref a, hv, tyL ha, a, xs, rfl, rfl, ha, o ow' σ _ re'⟩
  · exact o.elim
theorem ss_rev (h : PE X call (tBM0 X.K "list" rReverse (tVar i))) (hs : swapsWith call none pos.line X.env = pure false := by rfl) : PS X (.Expr call pos) (sP t (mRev i)) := by
  refine (ps_expr h hs).imp fun D σ H ⟨B, O, ow, env, re, o⟩ => ?_
  unfold mRev at o
  split at o
  · rename_i ds e
    by_cases hl : lfL ds = true
    · simp only [if_pos hl] at o
      obtain ⟨a, xs, F, hv, hw, ha, T, hn, hi⟩ := re.lst e
      obtain ⟨ow', re'⟩ := re.put (Sm.refl H) hv hw ha hi (re.items hw T).rev (lfL_rev hl)
      exact ⟨.ref a, hv, tyL ha, a, xs, rfl, rfl, ha, o ow' σ _ re'⟩
    · simp only [if_neg hl] at o; exact o.elim
  · exact o.elim
theorem ss_store {e k : Expr} {x : Str} {p p2 p3 : Pos} (hx : PE X (.Name x p) (tVar i)) (hk : PE X k (eP t R' m')) (he : PE X e (eP t R m))
    (ha : ∀ v, assign (.Subscript (.Name x p) k p2) X.env v = (do
      let ov ← holding [v] (eval (.Name x p) X.env)
      let iv ← holding [v, ov] (eval k X.env)
      standAt p2
      holding [v, ov, iv] (setItem ov iv v)
      release [v, ov, iv] []) := by intro _; rfl)
    (hs : swapsWithSole [.Subscript (.Name x p) k p2] e pos.line X.env = pure false := by rfl) (hw : swappedStores [.Subscript (.Name x p) k p2] e X.env = pure none := by rfl)
    (h1 : (assignEach [.Subscript (.Name x p) k p2] X.env).map (·.2) = [assign (.Subscript (.Name x p) k p2) X.env] := by rfl) : PS X (.Assign [.Subscript (.Name x p) k p2] e pos) (sP t (mStore i m' m)) := by
  refine (ps_asg he (pg_sub hx hk set_list ha) hs hw h1).imp fun D σ H ⟨B, O, ow, env, re, o⟩ => ?_
  unfold mStore at o
  split at o
  case h_2 => exact o.elim
  rename_i ds e
  refine ⟨B, O, ow, env, re, mOf_read re.ext o fun fr d v H1 s rv o1 => ?_⟩
  have re1 := re.same s
  obtain ⟨a, xs, F, hv, hw', ha', T, hn, hi⟩ := re1.lst e
  refine ⟨.ref a, hv, B, O, ow, env, re1, mOf_read re1.ext o1 fun fr2 d2 v2 H2 s2 rv2 o2 => ?_⟩
  have r2 := rv2.rp re1.odx (O' := OwX O R' ow) fun _ z => z
  cases r2 with
  | int k =>
    simp only at o2
    by_cases hl : lf d = true ∧ lfL ds = true
    · simp only [if_pos hl] at o2
      cases hp : ixN ds.length k with
      | none => simp only [hp] at o2; exact o2.elim
      | some p =>
        simp only [hp] at o2
        have rd : Rp t.K H2 O v d := (((rv.rp re.odx (O' := OwX O R ow) fun _ z => z).same s2)).free hl.1
        obtain ⟨ow', re'⟩ := re1.put s2 hv hw' ha' hi (((re1.items hw' T).same s2).set rd p) (lfL_set hl.2 hl.1 p)
        exact ⟨a, xs, k, p, rfl, rfl, s2.keep _ _ nt_lst ha', by rw [T.len]; exact hp, o2 ow' σ _ re'⟩
    · simp only [if_neg hl] at o2; exact o2.elim
  | _ => exact o2.elim
end
end S

/-! enumerate and zip over lists and tuples in any mix -/
namespace S
open PySem L2 PySem.Spec PyProof.Rows

/-- tp: a tuple, else a list -/
def PtIter (tp : Bool) (h : Heap) (it a : Addr) (i : Nat) : Prop := match tp with
  | true => h.IsTupleIter it a i
  | false => h.IsListIter it a i
def PtIs (tp : Bool) (h : Heap) (a : Addr) (items : Array Value) : Prop := match tp with
  | true => h.IsTuple a items
  | false => h.IsList a items
def SqB (K : PySem.W.Frag) (H : Hp) (tp : Bool) (a : Addr) (xs : List V) : Prop := match tp with
  | true => SqT K H a xs
  | false => SqL K H a xs
def ptObj (tp : Bool) (a : Addr) : Obj := match tp with
  | true => { cls := .type "tuple_iterator", data := .fields #[.ref a, .int 0 0] }
  | false => { cls := .type "list_iterator", data := .fields #[.ref a, .int 0 0] }
theorem pt_begins (tp : Bool) (a : Addr) (items : Array Value) : Begins (.ref a) (ptObj tp a) fun h => PtIs tp h a items := by
  cases tp with
  | true => exact begins_tuple a items
  | false => exact begins_list a items
theorem pt_draws {prog : Program} {w : World} {A : Around} (hh : A.handled = none) (tp : Bool) (it a : Addr) (hne : a ≠ it) (items : Array Value) :
    Draws prog w A it [it, a] items.size (fun i v => items[i]? = some v) (fun i h => PtIter tp h it a i ∧ PtIs tp h a items) := by
  cases tp with
  | true => exact Draws.tuple hh it a hne items
  | false => exact Draws.list hh it a hne items
theorem pt_iter0 {tp : Bool} {h : Heap} {it a : Addr} (e : h.get? it = some (ptObj tp a)) : PtIter tp h it a 0 := by
  cases tp with
  | true => exact ⟨_, e, rfl, rfl⟩
  | false => exact ⟨_, e, rfl, rfl⟩
theorem PtIter.live {tp : Bool} {h : Heap} {it a : Addr} {i : Nat} (x : PtIter tp h it a i) : ∃ o, h.get? it = some o ∧ ∀ v, o.data ≠ .cell v := by
  cases tp with
  | true => obtain ⟨o, e, _, d⟩ := x; exact ⟨o, e, fun v z => by rw [d] at z; cases z⟩
  | false => obtain ⟨o, e, _, d⟩ := x; exact ⟨o, e, fun v z => by rw [d] at z; cases z⟩
theorem PtIter.keep {tp : Bool} {h h' : Heap} {it a : Addr} {i : Nat} (x : PtIter tp h it a i) (k : ∀ o, h.get? it = some o → h'.get? it = some o) : PtIter tp h' it a i := by
  cases tp with
  | true => obtain ⟨o, e, r⟩ := x; exact ⟨o, k o e, r⟩
  | false => obtain ⟨o, e, r⟩ := x; exact ⟨o, k o e, r⟩
section
variable {X : Cx} {pins : List (Addr × Obj)} {σ : L2.St} {H : Hp} {s : Shared} {tp : Bool} {a : Addr} {xs ys : List V}
theorem inv_sqB (I : Inv X pins σ H s) (h : SqB X.K H tp a xs) : ∃ its : List Value, Vals xs its ∧ PtIs tp s.heap a its.toArray ∧ a < s.heap.objs.size := by
  cases tp with
  | true =>
    obtain ⟨its, r, p, _⟩ := I.tuple h
    exact ⟨its, r, p, p.lt⟩
  | false =>
    obtain ⟨its, r, p, _⟩ := I.list h
    exact ⟨its, r, p.isList, p.lt⟩
theorem inv_sqB_inj (I : Inv X pins σ H s) (h : SqB X.K H tp a xs) (h' : SqB X.K H tp a ys) : xs = ys := by
  cases tp with
  | true => exact I.tuple_inj h h'
  | false => exact I.list_inj h h'
end

/-! ### enumerate -/
def ItE (K : PySem.W.Frag) (tp : Bool) (a : Addr) : It :=
  ⟨fun i H => ∃ xs, SqB K H tp a xs ∧ i < xs.length, fun i H v H' => ∃ T x, v = .ref T ∧ H T = none ∧ H' = upd H T (.tup [.int (i : Int), x]) ∧ ∀ xs, SqB K H tp a xs → xs[i]? = some x, fun i H => ∃ xs, SqB K H tp a xs ∧ xs.length = i⟩
theorem zadd (i : Nat) : (0 : Int) + (i : Int) = (i : Int) := Int.zero_add _
theorem turn_e {P : Program} {w : World} {K : PySem.W.Frag} {elts : List Expr} {kk : Nat} {tpos : Pos} (tp : Bool) (a e it : Addr) (hei : e ≠ it) (hae : a ≠ e) (hai : a ≠ it) :
    Turn P w K (.Tuple elts kk tpos) (ItE K tp a) [e, it] e (fun i h => (∃ old, IsEnum h e it (0 + (i : Int)) old) ∧ PtIter tp h it a i) where
  mem := List.mem_cons_self
  obj := fun i h st b hb => by
    obtain ⟨⟨old, he⟩, p⟩ := st
    rcases List.mem_cons.mp hb with z | hb
    · rw [z]; exact ⟨_, he, fun v q => nomatch q⟩
    · rw [List.mem_singleton.mp hb]; exact p.live
  keep := fun i h h' st k => ⟨let ⟨old, he⟩ := st.1; ⟨old, k e List.mem_cons_self _ he⟩, st.2.keep fun o q => k it (List.mem_cons_of_mem _ List.mem_cons_self) o q⟩
  item := by
    intro X hP hw hK hc i pins s σ H E I hf st hg
    subst hP hw hK
    obtain ⟨xs, hq, hi⟩ := hg
    obtain ⟨its, rv, p, hal⟩ := inv_sqB I hq
    have hn : i < its.toArray.size := by rw [List.size_toArray, ← rv.length]; exact hi
    have W := GoesN.enumFrom (prog := X.prog) (w := X.w) (A := X.A) (elts := elts) (x1 := kk) (pos := tpos) 0 (pt_draws (A := X.A.in1) (I.ok.hd hc) tp it a hai its.toArray) e hei (by simp [hei, Ne.symm hae]) List.mem_cons_self
    have old : ∀ b ∈ [e, it], ∃ o, s.heap.get? b = some o := fun b hb => by
      rcases List.mem_cons.mp hb with z | hb
      · obtain ⟨⟨o, he⟩, _⟩ := st; rw [z]; exact ⟨_, he⟩
      · obtain ⟨o, he, _⟩ := st.2.live; rw [List.mem_singleton.mp hb]; exact ⟨_, he⟩
    refine thn (W.goes i s _ E hn ⟨st.1, st.2, p⟩ fun v h' tk hY st' hk htk => ?_) fun r s1 ⟨v, hv, q⟩ => ⟨v, hv, q⟩
    obtain ⟨T, t, u, rfl, hT, hx, hTup⟩ := hY
    obtain ⟨x, hx', rx⟩ : ∃ x, xs[i]? = some x ∧ RelV x u := by
      obtain ⟨x, hxx⟩ : ∃ x, xs[i]? = some x := ⟨_, List.getElem?_eq_getElem hi⟩
      obtain ⟨u', h1, h2⟩ := rv.get hxx
      have : its.toArray[i]? = some u' := by simpa using h1
      rw [hx] at this; cases this
      exact ⟨x, hxx, h2⟩
    rw [zadd] at hTup
    have hn : H T = none := I.hok.fresh hT
    have new : ObjOk X.prog X.w (upd H T (.tup [.int (i : Int), x])) h' T (.tup [.int (i : Int), x]) := ⟨by show 2 ≤ sizeLine; decide, [.int (i : Int) t, u], .cons ⟨_, rfl⟩ (.cons rx .nil), hTup⟩
    have I1 : Inv X pins σ (upd H T (.tup [.int (i : Int), x])) { s with heap := h', toks := tk } := I.turnedNew (ch := [e, it]) hk hf hT new
    refine ⟨.ref T, _, I1, rfl, ⟨T, x, rfl, hn, rfl, fun ys hy => by rw [inv_sqB_inj I hy hq]; exact hx'⟩, ⟨st'.1, st'.2.1⟩, fun b hb => ?_⟩
    obtain ⟨o, ho⟩ := old b hb
    rw [upd_ne (Nat.ne_of_lt (Nat.lt_of_lt_of_le (Heap.lt_size ho) hT))]
    exact (hf b hb).1
  done := by
    intro X hP hw hK hc i pins s σ H E I hf st hg
    subst hP hw hK
    obtain ⟨xs, hq, hi⟩ := hg
    obtain ⟨its, rv, p, hal⟩ := inv_sqB I hq
    have hn : its.toArray.size = i := by rw [List.size_toArray, ← rv.length]; exact hi
    have W := GoesN.enumFrom (prog := X.prog) (w := X.w) (A := X.A) (elts := elts) (x1 := kk) (pos := tpos) 0 (pt_draws (A := X.A.in1) (I.ok.hd hc) tp it a hai its.toArray) e hei (by simp [hei, Ne.symm hae]) List.mem_cons_self
    exact W.stops s _ E (by rw [hn]; exact ⟨st.1, st.2, p⟩) fun h' tk hk _ => I.turnedL (ch := [e, it]) hk hf
  self := fun A i s Q E st h => let ⟨⟨_, he⟩, _⟩ := st; wpAny_pyIter_enum he h
theorem enum_newB {v : Value} {o : Obj} {G : Heap → Prop} (B : Begins v o G) :
    Meets (Builtin.«enumerate.__new__» ⟨[.type "enumerate", v], []⟩) (fun _ R s => G s.heap ∧
      R (.ok (.ret (.ref (s.heap.push o).objs.size))) { s with heap := (s.heap.push o).push { cls := .type "enumerate", data := .fields #[.none, .bool false, .ref s.heap.objs.size, rawInt 0, .none, .none] } }) :=
  .of_wp fun prog w A R s h => by
    obtain ⟨hp, g, d, tk, os⟩ := s
    obtain ⟨h1, h⟩ := h
    have hsub := sub_enumerate
    have hi := fun (A : Around) (E : Value → Shared → Prop) (s : Shared) (Q : Value → Shared → Prop) => B.iter prog w A E s Q
    wp_walk
    refine wpAny_stack_any fun st => wpAny_pure ?_
    split
    · rename_i c _ _ _ _ _
      cases (c == Value.type "enumerate")
      · wp_walk using (hi _ _ _ _ h1)
        exact ⟨_, rfl, h⟩
      · wp_walk using (hi _ _ _ _ h1)
        exact ⟨_, rfl, h⟩
    · wp_walk using (hi _ _ _ _ h1)
      exact ⟨_, rfl, h⟩

def iEnumU (K : PySem.W.Frag) (ta : TA) : TI := fun σ H R => ta σ H fun vs H1 => ∃ a tp xs, vs = [.ref a] ∧ SqB K H1 tp a xs ∧ R (ItE K tp a) H1
theorem pi_enumU {X : Cx} {e : Expr} {ta : TA} {p pos tpos : Pos} {elts : List Expr} {kk : Nat} (hg : Gl X "enumerate") (hm : X.mg "enumerate" = none) (ha : PA X [e] ta) (hs : starEach [e] X.env = [(false, eval e X.env)] := by rfl) :
    PI X (.Tuple elts kk tpos) (.Call (.Name "enumerate" p) [e] [] pos) (iEnumU X.K ta) := by
  refine ⟨fun pins s σ H R I h => ?_⟩
  refine Call_ (ld_blt I hg hm boot_enumerate (PyProof.Rows.callWith_type1 (thn (ha.run pos pins s σ H _ I h) fun us s1 ⟨vs, H1, I1, r1, a, tp, xs, hv, hq, q⟩ => ?_) hs rfl))
  subst hv
  cases r1 with
  | cons r rr =>
    cases rr
    cases (show _ = Value.ref a from r)
    obtain ⟨its, rv, hp, hal⟩ := inv_sqB I1 hq
    refine callType_new F.called_enumerate (by decide) (F.typeCall_enumerate_1 _) (F.newCall_enumerate_1 _) (fun obj => F.args_object_init_2 obj _) F.entry_enumerate_new
      (enum_newB (pt_begins tp a its.toArray)) ⟨hp, ?_⟩
    have fr : (ptObj tp a).isFreed = false := (pt_begins tp a its.toArray).free
    have z1 : (s1.heap.push (ptObj tp a)).objs.size = s1.heap.objs.size + 1 := Heap.size_push ..
    generalize hh : (s1.heap.push (ptObj tp a)).push { cls := .type "enumerate", data := .fields #[.none, .bool false, .ref s1.heap.objs.size, rawInt 0, .none, .none] } = h'
    have he : IsEnum h' (s1.heap.objs.size + 1) s1.heap.objs.size 0 .none := by
      rw [← hh, ← z1]; exact Heap.get?_push_size _ rfl
    have hi : PtIter tp h' s1.heap.objs.size a 0 := by
      rw [← hh]; exact pt_iter0 (Heap.get?_push_of_some _ (Heap.get?_push_size _ fr))
    have hk : ∀ b o, s1.heap.get? b = some o → h'.get? b = some o := fun b o e => by
      rw [← hh]; exact Heap.get?_push_of_some _ (Heap.get?_push_of_some _ e)
    rw [z1]
    have I2 : Inv X pins σ H1 { s1 with heap := h' } := I1.kept (t' := s1.toks) hk
    refine ⟨⟨_, he, rfl⟩, wpAny_pyIter_enum he ?_⟩
    refine ⟨s1.heap.objs.size + 1, [s1.heap.objs.size + 1, s1.heap.objs.size], _, _, H1, rfl, I2, turn_e tp a _ _ (Nat.succ_ne_self _) (Nat.ne_of_lt (Nat.lt_succ_of_lt hal)) (Nat.ne_of_lt hal), ⟨⟨.none, he⟩, hi⟩, fun b hb => ?_, q⟩
    have hle : s1.heap.objs.size ≤ b := by
      rcases List.mem_cons.mp hb with z | z
      · rw [z]; exact Nat.le_succ _
      · rw [List.mem_singleton.mp z]; exact Nat.le_refl _
    exact I1.fpOk hle (I1.hok.fresh hle)

/-! ### zip -/
def ItZ (K : PySem.W.Frag) (tp tq : Bool) (a b : Addr) : It :=
  ⟨fun i H => ∃ xs ys, SqB K H tp a xs ∧ SqB K H tq b ys ∧ i < min xs.length ys.length,
   fun i H v H' => ∃ T x y, v = .ref T ∧ H T = none ∧ H' = upd H T (.tup [x, y]) ∧ (∀ xs, SqB K H tp a xs → xs[i]? = some x) ∧ ∀ ys, SqB K H tq b ys → ys[i]? = some y,
   fun i H => ∃ xs ys, SqB K H tp a xs ∧ SqB K H tq b ys ∧ min xs.length ys.length = i⟩
def ZipAt (tp tq : Bool) (a b z TI TO i1 i2 : Addr) (i : Nat) (h : Heap) : Prop := IsZip h z TI TO .none ∧ IsTupOf2 h TI (.ref i1) (.ref i2) ∧ (∃ a1 a2, IsTupOf2 h TO a1 a2) ∧ PtIter tp h i1 a i ∧ PtIter tq h i2 b i
theorem at_val {xs : List V} {its : List Value} {i : Nat} {u : Value} (rv : Vals xs its) (hi : i < xs.length) (hx : its.toArray[i]? = some u) : ∃ x, xs[i]? = some x ∧ RelV x u := by
  obtain ⟨x, hxx⟩ : ∃ x, xs[i]? = some x := ⟨_, List.getElem?_eq_getElem hi⟩
  obtain ⟨u', h1, h2⟩ := rv.get hxx
  have : its.toArray[i]? = some u' := by simpa using h1
  rw [hx] at this; cases this
  exact ⟨x, hxx, h2⟩
theorem turn_z {P : Program} {w : World} {K : PySem.W.Frag} {elts : List Expr} {kk : Nat} {tpos : Pos} (tp tq : Bool) {a b z TI TO i1 i2 : Addr} (S : ZipSep2 z TI TO i1 i2 [i1, a] [i2, b]) (nai : a ≠ i1) (nbi : b ≠ i2) :
    Turn P w K (.Tuple elts kk tpos) (ItZ K tp tq a b) [z, TI, TO, i1, i2] z (fun i h => ZipAt tp tq a b z TI TO i1 i2 i h) where
  mem := List.mem_cons_self
  obj := fun i h st c hc => by
    obtain ⟨h1, h2, ⟨x, y, h3⟩, h4, h5⟩ := st
    simp only [List.mem_cons, List.not_mem_nil, or_false] at hc
    rcases hc with rfl | rfl | rfl | rfl | rfl
    · exact ⟨_, h1, fun v q => nomatch q⟩
    · exact ⟨_, h2, fun v q => nomatch q⟩
    · exact ⟨_, h3, fun v q => nomatch q⟩
    · exact h4.live
    · exact h5.live
  keep := fun i h h' st k => by
    obtain ⟨h1, h2, ⟨x, y, h3⟩, h4, h5⟩ := st
    exact ⟨k z (by simp) _ h1, k TI (by simp) _ h2, ⟨x, y, k TO (by simp) _ h3⟩, h4.keep fun o e => k i1 (by simp) o e, h5.keep fun o e => k i2 (by simp) o e⟩
  item := by
    intro X hP hw hK hc i pins s σ H E I hf st hg
    subst hP hw hK
    obtain ⟨xs, ys, hqx, hqy, hi⟩ := hg
    obtain ⟨its, rv, p, _⟩ := inv_sqB I hqx
    obtain ⟨its2, rv2, p2, _⟩ := inv_sqB I hqy
    have hix : i < xs.length := Nat.lt_of_lt_of_le hi (Nat.min_le_left _ _)
    have hiy : i < ys.length := Nat.lt_of_lt_of_le hi (Nat.min_le_right _ _)
    have hn : i < min its.toArray.size its2.toArray.size := by rw [List.size_toArray, List.size_toArray, ← rv.length, ← rv2.length]; exact hi
    have W := GoesN.zip2 (prog := X.prog) (w := X.w) (A := X.A) (elts := elts) (x1 := kk) (pos := tpos) S (pt_draws (A := X.A.in1) (I.ok.hd hc) tp i1 a nai its.toArray) (pt_draws (A := X.A.in1) (I.ok.hd hc) tq i2 b nbi its2.toArray)
    have old : ∀ c ∈ [z, TI, TO, i1, i2], ∃ o, s.heap.get? c = some o := fun c hcm => by
      obtain ⟨h1, h2, ⟨x, y, h3⟩, h4, h5⟩ := st
      simp only [List.mem_cons, List.not_mem_nil, or_false] at hcm
      rcases hcm with rfl | rfl | rfl | rfl | rfl
      · exact ⟨_, h1⟩
      · exact ⟨_, h2⟩
      · exact ⟨_, h3⟩
      · obtain ⟨o, e, _⟩ := h4.live; exact ⟨o, e⟩
      · obtain ⟨o, e, _⟩ := h5.live; exact ⟨o, e⟩
    have sub : ∀ c ∈ [z, TO, i1, i2], c ∈ [z, TI, TO, i1, i2] := fun c m => by
      simp only [List.mem_cons, List.not_mem_nil, or_false] at m ⊢
      rcases m with m | m | m | m <;> simp [m]
    refine thn (W.goes i s _ E hn ⟨st.1, st.2.1, st.2.2.1, ⟨st.2.2.2.1, p⟩, ⟨st.2.2.2.2, p2⟩⟩ fun v h' tk hY st' hk htk => ?_) fun r s1 ⟨v, hv, q⟩ => ⟨v, hv, q⟩
    obtain ⟨T, u, u2, rfl, hT, hx, hy, hTup⟩ := hY
    obtain ⟨x, hx', rx⟩ := at_val rv hix hx
    obtain ⟨y, hy', ry⟩ := at_val rv2 hiy hy
    have hnT : H T = none := I.hok.fresh hT
    have new : ObjOk X.prog X.w (upd H T (.tup [x, y])) h' T (.tup [x, y]) := ⟨by show 2 ≤ sizeLine; decide, [u, u2], .cons rx (.cons ry .nil), hTup⟩
    have I1 : Inv X pins σ (upd H T (.tup [x, y])) { s with heap := h', toks := tk } := I.turnedNew (ch := [z, TO, i1, i2]) hk (fun c m => hf c (sub c m)) hT new
    refine ⟨.ref T, _, I1, rfl, ⟨T, x, y, rfl, hnT, rfl, fun l hl => by rw [inv_sqB_inj I hl hqx]; exact hx', fun l hl => by rw [inv_sqB_inj I hl hqy]; exact hy'⟩, ⟨st'.1, st'.2.1, st'.2.2.1, st'.2.2.2.1.1, st'.2.2.2.2.1⟩, fun c hcm => ?_⟩
    obtain ⟨o, ho⟩ := old c hcm
    rw [upd_ne (Nat.ne_of_lt (Nat.lt_of_lt_of_le (Heap.lt_size ho) hT))]
    exact (hf c hcm).1
  done := by
    intro X hP hw hK hc i pins s σ H E I hf st hg
    subst hP hw hK
    obtain ⟨xs, ys, hqx, hqy, hi⟩ := hg
    obtain ⟨its, rv, p, _⟩ := inv_sqB I hqx
    obtain ⟨its2, rv2, p2, _⟩ := inv_sqB I hqy
    have hn : min its.toArray.size its2.toArray.size = i := by rw [List.size_toArray, List.size_toArray, ← rv.length, ← rv2.length]; exact hi
    have W := GoesN.zip2 (prog := X.prog) (w := X.w) (A := X.A) (elts := elts) (x1 := kk) (pos := tpos) S (pt_draws (A := X.A.in1) (I.ok.hd hc) tp i1 a nai its.toArray) (pt_draws (A := X.A.in1) (I.ok.hd hc) tq i2 b nbi its2.toArray)
    have sub : ∀ c ∈ [z, TO, i1, i2], c ∈ [z, TI, TO, i1, i2] := fun c m => by
      simp only [List.mem_cons, List.not_mem_nil, or_false] at m ⊢
      rcases m with m | m | m | m <;> simp [m]
    exact W.stops s _ E (by rw [hn]; exact ⟨st.1, st.2.1, st.2.2.1, ⟨st.2.2.2.1, p⟩, ⟨st.2.2.2.2, p2⟩⟩) fun h' tk hk _ => I.turnedL (ch := [z, TO, i1, i2]) hk fun c m => hf c (sub c m)
  self := fun A i s Q E st h => wpAny_pyIter_zip st.1 h
def iZipU (K : PySem.W.Frag) (ta : TA) : TI := fun σ H R => ta σ H fun vs H1 => ∃ a b tp tq xs ys, vs = [.ref a, .ref b] ∧ SqB K H1 tp a xs ∧ SqB K H1 tq b ys ∧ R (ItZ K tp tq a b) H1
theorem pi_zipU {X : Cx} {e e2 : Expr} {ta : TA} {p pos tpos : Pos} {elts : List Expr} {kk : Nat} (hg : Gl X "zip") (hm : X.mg "zip" = none) (ha : PA X [e, e2] ta)
    (hs : starEach [e, e2] X.env = (false, eval e X.env) :: starEach [e2] X.env := by rfl) (hpl : (backTo pos (starEach [e2] X.env)).any (·.1) = false := by rfl) :
    PI X (.Tuple elts kk tpos) (.Call (.Name "zip" p) [e, e2] [] pos) (iZipU X.K ta) := by
  refine ⟨fun pins s σ H R I h => ?_⟩
  refine Call_ (ld_blt I hg hm PyProof.Rows.boot_zip (PyProof.Rows.callWith_type1 (thn (ha.run pos pins s σ H _ I h) fun us s1 ⟨vs, H1, I1, r1, a, b, tp, tq, xs, ys, hv, hqx, hqy, q⟩ => ?_) hs hpl))
  subst hv
  cases r1 with
  | cons r rr =>
    cases rr with
    | cons r' rr =>
      cases rr
      cases (show _ = Value.ref a from r)
      cases (show _ = Value.ref b from r')
      obtain ⟨its, rv, hp, hal⟩ := inv_sqB I1 hqx
      obtain ⟨its2, rv2, hp2, hbl⟩ := inv_sqB I1 hqy
      refine zip_begins2 (pt_begins tp a its.toArray) (pt_begins tq b its2.toArray) hp hp2 fun h' hz hTI hTO h1 h2 hsz hk => wpAny_pyIter_zip hz ?_
      have I2 : Inv X pins σ H1 { s1 with heap := h' } := I1.kept (t' := s1.toks) hk
      refine ⟨s1.heap.objs.size + 4, [s1.heap.objs.size + 4, s1.heap.objs.size + 2, s1.heap.objs.size + 3, s1.heap.objs.size, s1.heap.objs.size + 1], _, _, H1, rfl, I2,
        turn_z tp tq (zip_sep2 (N := s1.heap.objs.size) (fp1 := [a]) (fp2 := [b]) (fun c m => by rw [List.mem_singleton.mp m]; exact hal) (fun c m => by rw [List.mem_singleton.mp m]; exact hbl)) (Nat.ne_of_lt hal) (Nat.ne_of_lt (Nat.lt_succ_of_lt hbl)),
        ⟨hz, hTI, ⟨_, _, hTO⟩, pt_iter0 h1, pt_iter0 h2⟩, fun c hcm => ?_, q⟩
      have hle : s1.heap.objs.size ≤ c := by
        simp only [List.mem_cons, List.not_mem_nil, or_false] at hcm
        rcases hcm with z | z | z | z | z <;> (rw [z]; first | exact Nat.le_refl _ | exact Nat.le_add_right _ _)
      exact I1.fpOk hle (I1.hok.fresh hle)

/-! ### the same, read by data -/
def iEnum (m : Env → RD) : Env → Rs (List D) := fun env => (m env).bind fun x => (itemsOf x.2).bind fun ds => .ok (ds.mapIdx fun i d => .tup [.int (i : Int), d])
def iZip (m k : Env → RD) : Env → Rs (List D) := fun env => (m env).bind fun x => (k env).bind fun y => (itemsOf x.2).bind fun ds => (itemsOf y.2).bind fun es => .ok (List.zipWith (fun d e => .tup [d, e]) ds es)
/-- a sequence's items, whatever is changed that it doesn't hang on -/
theorem seq_items {K : PySem.W.Frag} {O : Addr → Prop} {H1 : Hp} {v : V} {d : D} {ds : List D} (r : Rp K H1 O v d) (hd : itemsOf d = .ok ds) :
    ∃ a tp xs, v = .ref a ∧ xs.length = ds.length ∧ RpL K H1 O xs ds ∧ ∀ H2, Keep O H1 H2 → SqB K H2 tp a xs := by
  cases r with
  | @lst a xs _ h h2 hs => cases hd; exact ⟨a, false, xs, rfl, hs.len, hs, fun H2 k => SqL.of (k.1 _ _ h2 nt_lst h)⟩
  | @tup a xs _ h hs => cases hd; exact ⟨a, true, xs, rfl, hs.len, hs, fun H2 k => k.2.t h⟩
  | @scr a ns h => cases hd; exact ⟨a, false, ns.map V.int, rfl, by simp, RpL.ints ns, fun H2 k => (k.2.f h).sql⟩
  | _ => cases hd
theorem Keep.refl (O : Addr → Prop) (H : Hp) : Keep O H H := ⟨fun _ _ _ _ h => h, fun _ _ _ _ h => h⟩
section
variable {X : Cx} {t : Ctx} {R R' : List Nat} {m k : Env → RD}
theorem enum_walk {K : PySem.W.Frag} {O : Addr → Prop} {H1 : Hp} {a : Addr} {tp : Bool} {xs : List V} {ds : List D} (rs : RpL K H1 O xs ds) (sq : ∀ H2, Keep O H1 H2 → SqB K H2 tp a xs) :
    WalkOk K O (ItE K tp a) H1 (ds.mapIdx fun i d => .tup [.int (i : Int), d]) := by
  refine ⟨fun H2 kp i hi => ⟨xs, sq H2 kp, by rw [rs.len]; simpa using hi⟩, fun H2 kp => ⟨xs, sq H2 kp, by rw [rs.len]; simp⟩, fun H2 O' kp hO hO2 i d x H3 e y => ?_⟩
  obtain ⟨T, u, rfl, hT, rfl, hu⟩ := y
  have hx := hu xs (sq H2 kp)
  obtain ⟨d0, h1, h2⟩ := rs.getV hx
  rw [List.getElem?_mapIdx, h1] at e
  cases e
  exact ⟨upd_newS hT, Rp.newTup hT (.cons (.int _) (.cons (kp.rp hO h2) .nil))⟩
theorem zip_walk {K : PySem.W.Frag} {O : Addr → Prop} {H1 : Hp} {a b : Addr} {tp tq : Bool} {xs ys : List V} {ds es : List D} (rs : RpL K H1 O xs ds) (sq : ∀ H2, Keep O H1 H2 → SqB K H2 tp a xs) (rs2 : RpL K H1 O ys es) (sq2 : ∀ H2, Keep O H1 H2 → SqB K H2 tq b ys) :
    WalkOk K O (ItZ K tp tq a b) H1 (List.zipWith (fun d e => .tup [d, e]) ds es) := by
  refine ⟨fun H2 kp i hi => ⟨xs, ys, sq H2 kp, sq2 H2 kp, by rw [rs.len, rs2.len]; simpa using hi⟩, fun H2 kp => ⟨xs, ys, sq H2 kp, sq2 H2 kp, by rw [rs.len, rs2.len]; simp⟩, fun H2 O' kp hO hO2 i d x H3 e y => ?_⟩
  obtain ⟨T, u, u2, rfl, hT, rfl, hu, hu2⟩ := y
  obtain ⟨d0, h1, h2⟩ := rs.getV (hu xs (sq H2 kp))
  obtain ⟨e0, h3, h4⟩ := rs2.getV (hu2 ys (sq2 H2 kp))
  rw [List.getElem?_zipWith, h1, h3] at e
  cases e
  exact ⟨upd_newS hT, Rp.newTup hT (.cons (kp.rp hO h2) (.cons (kp.rp hO h4) .nil))⟩
theorem si_enum {e : Expr} {p pos tpos : Pos} {elts : List Expr} {kk : Nat} (hK : t.K.K = X.K) (hg : Gl X "enumerate") (hm : X.mg "enumerate" = none) (h : PE X e (eP t R m)) (hs : starEach [e] X.env = [(false, eval e X.env)] := by rfl) :
    PI X (.Tuple elts kk tpos) (.Call (.Name "enumerate" p) [e] [] pos) (iP t R (iEnum m)) := by
  refine (pi_enumU hg hm (pa_cons h pa_nil hs) hs).imp fun σ H Q ⟨B, O, ow, env, re, q⟩ => ⟨B, O, ow, env, re, ?_⟩
  unfold iEnum at q
  cases qm : m env with
  | ok z =>
    obtain ⟨fr, d⟩ := z
    rw [qm] at q
    intro v H1 s rv
    have r := rv.rp re.odx (O' := OwX O R ow) fun _ z => z
    simp only [Rs.bind_ok] at q
    cases qi : itemsOf d with
    | ok ds =>
      simp only [qi, Rs.bind_ok] at q
      obtain ⟨a, tp, xs, rfl, _, rs, sq⟩ := seq_items r qi
      exact ⟨a, tp, xs, rfl, by rw [← hK]; exact sq H1 (Keep.refl _ _), by rw [← hK]; exact q _ H1 s (enum_walk rs sq)⟩
    | ex n a => cases d <;> cases qi
    | no => simp only [qi, Rs.bind_no] at q
  | ex n a => rw [qm] at q; exact q
  | no => rw [qm] at q; exact q
theorem si_zip {e e2 : Expr} {p pos tpos : Pos} {elts : List Expr} {kk : Nat} (hK : t.K.K = X.K) (hg : Gl X "zip") (hm : X.mg "zip" = none) (h : PE X e (eP t R m)) (h' : PE X e2 (eP t R' k))
    (hs : starEach [e, e2] X.env = (false, eval e X.env) :: starEach [e2] X.env := by rfl) (hs2 : starEach [e2] X.env = (false, eval e2 X.env) :: starEach [] X.env := by rfl) (hpl : (backTo pos (starEach [e2] X.env)).any (·.1) = false := by rfl) :
    PI X (.Tuple elts kk tpos) (.Call (.Name "zip" p) [e, e2] [] pos) (iP t (R ++ R') (iZip m k)) := by
  refine (pi_zipU hg hm (pa_cons h (pa_cons h' pa_nil hs2) hs) hs hpl).imp fun σ H Q ⟨B, O, ow, env, re, q⟩ => ⟨B, O, ow, env, re, ?_⟩
  unfold iZip at q
  cases qm : m env with
  | ok z =>
    obtain ⟨fr, d⟩ := z
    rw [qm] at q
    intro v H1 s rv
    simp only [Rs.bind_ok] at q
    have re1 := re.same s
    refine ⟨B, O, ow, env, re1, ?_⟩
    cases qk : k env with
    | ok z2 =>
      obtain ⟨fr2, d2⟩ := z2
      rw [qk] at q
      intro v2 H2 s2 rv2
      simp only [Rs.bind_ok] at q
      have r := (rv.rp re.odx (O' := OwX O (R ++ R') ow) fun _ z => owx_l z).same s2
      have r2 := rv2.rp re1.odx (O' := OwX O (R ++ R') ow) fun _ z => owx_r z
      cases qi : itemsOf d with
      | ok ds =>
        simp only [qi, Rs.bind_ok] at q
        cases qj : itemsOf d2 with
        | ok es =>
          simp only [qj, Rs.bind_ok] at q
          obtain ⟨a, tp, xs, rfl, _, rs, sq⟩ := seq_items r qi
          obtain ⟨b, tq, ys, rfl, _, rs2, sq2⟩ := seq_items r2 qj
          exact ⟨a, b, tp, tq, xs, ys, rfl, by rw [← hK]; exact sq H2 (Keep.refl _ _), by rw [← hK]; exact sq2 H2 (Keep.refl _ _), by rw [← hK]; exact q _ H2 (s.trans s2) (zip_walk rs sq rs2 sq2)⟩
        | ex n a => cases d2 <;> cases qj
        | no => simp only [qj, Rs.bind_no] at q
      | ex n a => cases d <;> cases qi
      | no => simp only [qi, Rs.bind_no] at q
    | ex n a => rw [qk] at q; exact fun C dx H2 s2 z => q C dx H2 (s.trans s2) z
    | no => rw [qk] at q; exact q
  | ex n a => rw [qm] at q; exact q
  | no => rw [qm] at q; exact q
end
end S

/-! list comprehensions -/
namespace S
open PySem L2 PySem.Spec PyProof.Rows

/-- nothing may be raised within -/
abbrev Ctx.still (t : Ctx) : Ctx := ⟨t.K, t.mg, fun _ _ _ => False⟩
def wipeE (vs : List Nat) (env : Env) : Env := vs.foldr (fun i e => e.set i none) env
def compL (tg : D → Env → Option Env) (tt : Env → Rs Bool) (el : Env → RD) (env : Env) : List D → Rs (Bool × List D)
  | [] => .ok (true, [])
  | d :: ds => match tg d env with
    | none => .no
    | some e => match tt e with
      | .ok true => match el e with
        | .ok x => match compL tg tt el env ds with
          | .ok r => .ok ((x.1 || lf x.2) && r.1, x.2 :: r.2)
          | _ => .no
        | _ => .no
      | .ok false => compL tg tt el env ds
      | _ => .no
def eComp (Ri vs : List Nat) (it : Env → Rs (List D)) (tg : D → Env → Option Env) (tt : Env → Rs Bool) (el : Env → RD) : Env → RD := fun env => match it env with
  | .ok ds => match compL tg tt el (wipeE vs (frz Ri env)) ds with
    | .ok r => if r.2.length ≤ sizeLine then .ok (r.1, .lst r.2) else .no
    | _ => .no
  | .ex n a => .ex n a
  | .no => .no
def tYes : Env → Rs Bool := fun _ => .ok true

theorem wipe_at : ∀ (vs : List Nat) (σ : L2.St) (j : Nat), (wipe σ vs)[j]? = if j ∈ vs ∧ j < σ.length then some none else σ[j]?
  | [], σ, j => by simp [wipe]
  | v :: vs, σ, j => by
    have ih := wipe_at vs σ j
    have hl := wipe_length σ vs
    unfold wipe
    by_cases e : j = v
    · subst e
      by_cases hj : j < σ.length
      · rw [List.getElem?_set_self (by rw [hl]; exact hj), if_pos ⟨List.mem_cons_self, hj⟩]
      · rw [if_neg (fun z => hj z.2), List.getElem?_eq_none (by rw [List.length_set, hl]; omega), List.getElem?_eq_none (by omega)]
    · rw [List.getElem?_set_ne (Ne.symm e), ih]
      by_cases hm : j ∈ vs ∧ j < σ.length
      · rw [if_pos hm, if_pos ⟨List.mem_cons_of_mem _ hm.1, hm.2⟩]
      · rw [if_neg hm, if_neg (fun z => hm ⟨(List.mem_cons.mp z.1).resolve_left e, z.2⟩)]
theorem wipe_sets {Zs vs : List Nat} {σ σ' : L2.St} {ow ow' : Nat → List Addr} (h : Sets Zs σ σ' ow ow') (sub : ∀ j ∈ Zs, j ∈ vs) : wipe σ' vs = wipe σ vs := by
  apply List.ext_getElem?
  intro j
  rw [wipe_at, wipe_at, h.1]
  by_cases hm : j ∈ vs ∧ j < σ.length
  · rw [if_pos hm, if_pos hm]
  · rw [if_neg hm, if_neg hm]
    by_cases hj : j ∈ vs
    · have hge : σ.length ≤ j := Nat.le_of_not_lt fun z => hm ⟨hj, z⟩
      rw [List.getElem?_eq_none (by rw [h.1]; exact hge), List.getElem?_eq_none hge]
    · exact h.2.1 j fun z => hj (sub j z)
theorem wipeE_at {vs : List Nat} {env : Env} {j : Nat} {p : Bool × D} (h : (wipeE vs env)[j]? = some (some p)) : j ∉ vs ∧ env[j]? = some (some p) := by
  induction vs with
  | nil => exact ⟨(fun z => nomatch z), h⟩
  | cons v vs ih =>
    have h : ((wipeE vs env).set v none)[j]? = some (some p) := h
    rcases set_get h with ⟨_, z, _⟩ | ⟨ne, h⟩
    · cases z
    · exact ⟨fun z => (List.mem_cons.mp z).elim ne (ih h).1, (ih h).2⟩
theorem wipeE_len {vs : List Nat} {env : Env} : (wipeE vs env).length = env.length := by
  induction vs with
  | nil => rfl
  | cons v vs ih => show ((wipeE vs env).set v none).length = _; rw [List.length_set]; exact ih
section
variable {K : KT} {B H H' : Hp} {O : Addr → Prop} {ow : Nat → List Addr} {σ : L2.St} {env : Env} {R : List Nat}
def Gv (vs : List Nat) (ow : Nat → List Addr) (a : Addr) : Prop := ∃ i, i ∈ vs ∧ a ∈ ow i
def OG (O : Addr → Prop) (vs : List Nat) (ow : Nat → List Addr) : Addr → Prop := fun a => O a ∨ Gv vs ow a
open Classical in
noncomputable def BG (B H : Hp) (vs : List Nat) (ow : Nat → List Addr) : Hp := fun a => if Gv vs ow a then H a else B a
theorem owLess_ne {j : Nat} : ∀ {R : List Nat}, j ∉ R → owLess ow R j = ow j
  | [], _ => rfl
  | i :: R, n => by
    show owSet (owLess ow R) i [] j = ow j
    rw [owSet_ne (fun z => n (by rw [z]; exact List.mem_cons_self))]
    exact owLess_ne (fun z => n (List.mem_cons_of_mem _ z))
/-- the slots vs out of sight, what they own barred -/
theorem RE.wipe (vs : List Nat) (re : RE K B O ow σ H env) : RE K (BG B H vs ow) (OG O vs ow) (owLess ow vs) (L2.wipe σ vs) H (wipeE vs env) := by
  have get : ∀ {j : Nat} {v : V}, j ∉ vs → σ[j]? = some (some v) → (L2.wipe σ vs)[j]? = some (some v) := fun {j v} n h => by
    rw [wipe_at, if_neg (fun z => n z.1)]; exact h
  have yes : ∀ {a}, Gv vs ow a → BG B H vs ow a = H a := fun h => if_pos h
  have no : ∀ {a}, ¬ Gv vs ow a → BG B H vs ow a = B a := fun h => if_neg h
  have back : ∀ a, Ow (OG O vs ow) (owLess ow vs) a → Ow O ow a := fun a z => by
    rcases z with (z | ⟨i, _, z⟩) | ⟨i, z⟩
    · exact .inl z
    · exact .inr ⟨i, z⟩
    · exact .inr ⟨i, (mem_owLess z).2⟩
  refine ⟨by rw [wipe_length, wipeE_len]; exact re.len, ⟨fun a u nt e => ?_, fun _ => re.tabs⟩, re.tabs, fun a z => ?_, fun j d h => ?_, fun j d h => ?_, fun j a m => ?_, fun i j a h1 h2 => re.inj i j a (mem_owLess h1).2 (mem_owLess h2).2⟩
  · by_cases g : Gv vs ow a
    · rw [yes g] at e; exact e
    · rw [no g] at e; exact re.ext.keep a u nt e
  · by_cases g : Gv vs ow a
    · obtain ⟨i, _, m⟩ := id g
      obtain ⟨u, n, e⟩ := re.od a (.inr ⟨i, m⟩)
      exact ⟨u, n, by rw [yes g]; exact e⟩
    · obtain ⟨u, n, e⟩ := re.dom a (z.resolve_right g)
      exact ⟨u, n, by rw [no g]; exact e⟩
  · obtain ⟨n, h⟩ := wipeE_at h
    obtain ⟨v, h1, h2⟩ := re.fz j d h
    exact ⟨v, get n h1, h2.mono fun a z => .inl (back a z)⟩
  · obtain ⟨n, h⟩ := wipeE_at h
    obtain ⟨v, h1, h2⟩ := re.tr j d h
    exact ⟨v, get n h1, by rw [owLess_ne n]; exact h2⟩
  · obtain ⟨n, m⟩ := mem_owLess m
    obtain ⟨h1, h2⟩ := re.own j a m
    exact ⟨fun u nt e => h1 u nt (by rw [no (fun ⟨i, hi, z⟩ => n (by rw [re.inj j i a m z]; exact hi))] at e; exact e), h2⟩
theorem sm_upd {T : List (Addr × Str)} {H1 H5 : Hp} {p : Addr} {u o : HO} (s : Sm T H1 H5) (hp : H1 p = none) (hD : H5 p = some u) (l : LD u) : Sm T H1 (upd H5 p o) :=
  ⟨fun b x n h => by rw [upd_ne (ne_of_none h hp)]; exact s.keep b x n h, fun t => tabs_upd hD l (s.tabs t)⟩
/-- with a list in the making at p -/
def Plus (O : Addr → Prop) (p : Addr) : Addr → Prop := fun a => O a ∨ a = p
theorem RE.making {p : Addr} {acc : List V} (re : RE K B O ow σ H env) (hp : H p = none) (s : Sm K.T H H') (h' : H' p = some (.lst acc)) : RE K (upd B p (.lst acc)) (Plus O p) ow σ H' env := by
  have re' := re.same s
  have nB : Fr B p := re.ext.free (fr_none hp)
  have np : ∀ i, p ∉ ow i := fun i m => by
    obtain ⟨_, u, h, _⟩ := re.own i p m
    rw [hp] at h; cases h
  have mono : ∀ a, Ow (Plus O p) ow a → Ow O ow a ∨ Fr H a := fun a z => by
    rcases z with (z | z) | z
    · exact .inl (.inl z)
    · exact .inr (by rw [z]; exact fr_none hp)
    · exact .inl (.inr z)
  refine ⟨re.len, ⟨fun a u nt e => ?_, fun _ => re'.tabs⟩, re'.tabs, fun a z => ?_, fun j d h => ?_, re'.tr, fun i a m => ?_, re.inj⟩
  · by_cases ea : a = p
    · rw [ea, upd_same] at e; cases e; rw [ea]; exact h'
    · rw [upd_ne ea] at e; exact re'.ext.keep a u nt e
  · by_cases ea : a = p
    · exact ⟨_, nt_lst, by rw [ea, upd_same]⟩
    · obtain ⟨u, n, e⟩ := re.dom a (z.resolve_right ea)
      exact ⟨u, n, by rw [upd_ne ea]; exact e⟩
  · obtain ⟨v, h1, h2⟩ := re.fz j d h
    exact ⟨v, h1, (h2.mono mono).same s⟩
  · obtain ⟨h1, h2⟩ := re'.own i a m
    exact ⟨fun u nt e => h1 u nt (by rw [upd_ne (fun z => by subst z; exact np i m)] at e; exact e), h2⟩
end
section
variable {X : Cx} {t : Ctx} {Ri Re Zs vs : List Nat} {it : Env → Rs (List D)} {mt : D → Env → Option Env} {tt : Env → Rs Bool} {el : Env → RD}
/-- what has been made so far: b: things that stand by themselves -/
def Made (K : PySem.W.Frag) (H1 H : Hp) (O : Addr → Prop) (p : Addr) (b : Bool) (acc : List V) (out : List D) : Prop :=
  (b = true → ∃ F, TrL K H F acc out ∧ ∀ a ∈ F, Fr H1 a ∧ a ≠ p) ∧ RpL K H (Plus O p) acc out
theorem owLess_pl {O : Addr → Prop} {ow : Nat → List Addr} {a : Addr} (h : OwX O (Ri ++ Re) ow a) : OwX O Re (owLess ow Ri) a := h.elim .inl fun ⟨i, n, m⟩ => .inr ⟨i, fun z => n (List.mem_append_right _ z), of_owLess (fun z => n (List.mem_append_left _ z)) m⟩
theorem comp_read {σ : L2.St} {H : Hp} {Q : VK} (sub : ∀ j ∈ Zs, j ∈ vs) (h : eP t (Ri ++ Re) (eComp Ri vs it mt tt el) σ H Q) :
    tLc (iP t Ri it) (gP t.still Zs mt) (tP t.still tt) (eP t.still Re el) vs σ H Q := by
  obtain ⟨B, O, ow, env, re, po⟩ := h
  refine ⟨B, O, ow, env, re, ?_⟩
  unfold eComp at po
  cases qi : it env with
  | ex n a => simp only [qi] at po; exact po
  | no => simp only [qi] at po; exact po
  | ok ds =>
    simp only [qi] at po
    intro J H1 s1 wk p hp
    have re1 := re.same s1
    have re2 := (re1.freeze Ri).wipe vs
    generalize hE : wipeE vs (frz Ri env) = env2 at re2 po
    cases qc : compL mt tt el env2 ds with
    | ex n a => simp only [qc] at po; exact po.elim
    | no => simp only [qc] at po; exact po.elim
    | ok r =>
      obtain ⟨bT, outT⟩ := r
      simp only [qc] at po
      by_cases hl : outT.length ≤ sizeLine
      · simp only [if_pos hl] at po
        refine ⟨fun i m H2 => m + i = ds.length ∧ Sm t.K.T H1 H2 ∧ ∃ acc out b rest bR, H2 p = some (.lst acc) ∧ compL mt tt el env2 (ds.drop i) = .ok (bR, rest) ∧ outT = out ++ rest ∧ bT = (b && bR) ∧ Made t.K H1 H2 (OwX O (Ri ++ Re) ow) p b acc out,
          ⟨ds.length, by simp, upd_new hp, [], [], true, outT, bT, upd_same, by simpa using qc, rfl, by simp, fun _ => ⟨[], .nil, fun a z => nomatch z⟩, .nil⟩, ?_⟩
        rintro i m H2 ⟨hm, s2, acc, out, b, rest, bR, hD, hc, hT, hb, hM⟩
        have kp : Keep (OwX O Ri ow) H1 H2 := ⟨fun a u _ nt h => s2.keep _ _ nt h, firm_same s2⟩
        by_cases hi : i < ds.length
        · have hd : ds.drop i = ds[i] :: ds.drop (i + 1) := List.drop_eq_getElem_cons hi
          rw [hd] at hc
          unfold compL at hc
          refine .inr ⟨wk.go H2 kp i hi, fun H' => Sm t.K.T H1 H' ∧ ∃ acc out b rest bR, H' p = some (.lst acc) ∧ compL mt tt el env2 (ds.drop (i + 1)) = .ok (bR, rest) ∧ outT = out ++ rest ∧ bT = (b && bR) ∧ Made t.K H1 H' (OwX O (Ri ++ Re) ow) p b acc out,
            fun H' ⟨a1, a2⟩ => ⟨m - 1, by omega, by omega, a1, a2⟩, fun x H3 hy => ?_⟩
          have back : ∀ a, Ow (OG O vs (owLess ow Ri)) (owLess (owLess ow Ri) vs) a → Ow O (owLess ow Ri) a := fun a z => by
            rcases z with (z | ⟨i, _, z⟩) | ⟨i, z⟩
            · exact .inl z
            · exact .inr ⟨i, z⟩
            · exact .inr ⟨i, (mem_owLess z).2⟩
          have hO : ∀ a, Ow (Plus (OG O vs (owLess ow Ri)) p) (owLess (owLess ow Ri) vs) a → OwX O Ri ow a ∨ Fr H1 a := fun a z => by
            rcases z with (z | z) | z
            · exact .inl (owLess_x (back a (.inl z)))
            · exact .inr (by rw [z]; exact fr_none hp)
            · exact .inl (owLess_x (back a (.inr z)))
          have hO2 : ∀ a, Ow (Plus (OG O vs (owLess ow Ri)) p) (owLess (owLess ow Ri) vs) a → Sd H2 a := fun a z => by
            rcases z with (z | z) | z
            · exact (re2.same s2).od a (.inl z)
            · exact ⟨_, nt_lst, by rw [z]; exact hD⟩
            · exact (re2.same s2).od a (.inr z)
          obtain ⟨s3, r3⟩ := wk.yld H2 _ kp hO hO2 i ds[i] x H3 (List.getElem?_eq_getElem hi) hy
          have s3' : Sm t.K.T H2 H3 := sm_of s3
          have s13 := s2.trans s3'
          have re3 := re2.making hp s13 (s3 _ _ hD)
          refine ⟨_, _, _, _, ds[i], re3, r3, ?_⟩
          cases qt : mt ds[i] env2 with
          | none => simp only [qt] at hc; cases hc
          | some e1 =>
            simp only [qt] at hc
            refine fun ow' σ' hw hs re4 => ⟨by rw [wipe_sets hs sub]; apply List.ext_getElem?; intro j; rw [wipe_at, wipe_at]; split <;> simp_all [wipe_length], ?_⟩
            have avoid : ∀ a, Plus (OwX O (Ri ++ Re) ow) p a → OwX (Plus (OG O vs (owLess ow Ri)) p) Re ow' a := fun a z => by
              rcases z with (z | ⟨i, n, z⟩) | z
              · exact .inl (.inl (.inl z))
              · have n1 : i ∉ Ri := fun q => n (List.mem_append_left _ q)
                have n2 : i ∉ Re := fun q => n (List.mem_append_right _ q)
                have z1 : a ∈ owLess ow Ri i := of_owLess n1 z
                by_cases hv : i ∈ vs
                · exact .inl (.inl (.inr ⟨i, hv, z1⟩))
                · exact .inr ⟨i, n2, by rw [hs.2.2 i (fun q => hv (sub i q))]; exact of_owLess hv z1⟩
              · exact .inl (.inr z)
            refine ⟨_, _, ow', e1, re4, ?_⟩
            cases qtt : tt e1 with
            | ex n a => simp only [qtt] at hc; cases hc
            | no => simp only [qtt] at hc; cases hc
            | ok k =>
              intro H4 s4
              cases k with
              | false =>
                simp only [qtt] at hc
                refine (if_neg Bool.false_ne_true).mpr ⟨s13.trans s4, acc, out, b, rest, bR, s4.keep _ _ nt_lst (s3 _ _ hD), hc, hT, hb, fun h => ?_, hM.2.same (s3'.trans s4)⟩
                obtain ⟨F, h1, h2⟩ := hM.1 h
                exact ⟨F, h1.same (s3'.trans s4), h2⟩
              | true =>
                simp only [qtt] at hc
                refine (if_pos rfl).mpr ⟨_, _, ow', e1, re4.same s4, ?_⟩
                cases qel : el e1 with
                | ex n a => simp only [qel] at hc; cases hc
                | no => simp only [qel] at hc; cases hc
                | ok x =>
                  obtain ⟨fr, d⟩ := x
                  simp only [qel] at hc
                  cases qr : compL mt tt el env2 (ds.drop (i + 1)) with
                  | ex n a => simp only [qr] at hc; cases hc
                  | no => simp only [qr] at hc; cases hc
                  | ok r =>
                    obtain ⟨bR', rest'⟩ := r
                    simp only [qr] at hc
                    cases hc
                    intro y H5 s5 rv
                    have s25 : Sm t.K.T H2 H5 := (s3'.trans s4).trans s5
                    have hD5 := s25.keep _ _ nt_lst hD
                    have lacc : acc.length = out.length := hM.2.len
                    have hlen : acc.length < sizeLine := by
                      have : outT.length = out.length + (rest'.length + 1) := by rw [hT, List.length_append, List.length_cons]
                      omega
                    have rp5 : Rp t.K H5 (Plus (OwX O (Ri ++ Re) ow) p) y d := rv.rp ((re4.same s4).odx) avoid
                    have fm : Firm H5 (upd H5 p (.lst (acc ++ [y]))) := firm_upd (Sm.refl (T := []) _) hD5 trivial
                    have hd6 : ∀ a u, ¬ Plus (OwX O (Ri ++ Re) ow) p a → NT u → H5 a = some u → upd H5 p (.lst (acc ++ [y])) a = some u := fun a u n _ h => by
                      rw [upd_ne (fun z => n (.inr z))]; exact h
                    have rp6 : Rp t.K (upd H5 p (.lst (acc ++ [y]))) (Plus (OwX O (Ri ++ Re) ow) p) y d := rp5.carry (fun _ z => .inl z) hd6 fm
                    have ac6 : RpL t.K (upd H5 p (.lst (acc ++ [y]))) (Plus (OwX O (Ri ++ Re) ow) p) acc out := (hM.2.same s25).carry (fun _ z => .inl z) hd6 fm
                    refine ⟨acc, hD5, hlen, sm_upd ((s13.trans s4).trans s5) hp hD5 trivial, acc ++ [y], out ++ [d], b && (fr || lf d), rest', bR', upd_same, rfl, by rw [hT, List.append_assoc]; rfl, by rw [hb, Bool.and_assoc], fun hbb => ?_, ac6.append (.cons rp6 .nil)⟩
                    obtain ⟨hb1, hb2⟩ := Bool.and_eq_true_iff.mp hbb
                    obtain ⟨F, h1, h2⟩ := hM.1 hb1
                    have T1 : TrL t.K (upd H5 p (.lst (acc ++ [y]))) F acc out := (h1.same s25).carry (fun a m u _ h => by rw [upd_ne (h2 a m).2]; exact h) fm
                    obtain ⟨G, g1, g2⟩ : ∃ G, Tr t.K H5 G y d ∧ ∀ a ∈ G, Fr H4 a := by
                      cases fr with
                      | true => exact rv
                      | false => exact ⟨[], rp5.tr (by simpa using hb2), fun a z => nomatch z⟩
                    have gp : ∀ a ∈ G, a ≠ p := fun a m z => by
                      exact g2 a m (.lst acc) nt_lst (by rw [z]; exact s4.keep _ _ nt_lst (s3 _ _ hD))
                    have T2 : Tr t.K (upd H5 p (.lst (acc ++ [y]))) G y d := g1.carry (fun a m u _ h => by rw [upd_ne (gp a m)]; exact h) fm
                    refine ⟨F ++ (G ++ []), T1.append (.cons T2 .nil fun a _ z => nomatch z) fun a m z => ?_, fun a m => ?_⟩
                    · rw [List.append_nil] at z
                      obtain ⟨u, hu, l⟩ := h1.mem a m
                      exact g2 a z u (mut_nt l) ((s3'.trans s4).keep _ _ (mut_nt l) hu)
                    · rcases List.mem_append.mp m with m | m
                      · exact h2 a m
                      · rw [List.append_nil] at m
                        exact ⟨(s13.trans s4).free (g2 a m), gp a m⟩
        · have ei : i = ds.length := by omega
          subst ei
          rw [List.drop_length] at hc
          unfold compL at hc
          cases hc
          refine .inl ⟨wk.stop H2 kp, po _ _ (s1.trans s2) ?_⟩
          rw [List.append_nil] at hT
          rw [Bool.and_true] at hb
          subst hT
          subst hb
          cases bT with
          | true =>
            obtain ⟨F, h1, h2⟩ := hM.1 rfl
            refine ⟨p :: F, .lst hD h1 fun z => (h2 p z).2 rfl, fun a z => ?_⟩
            rcases List.mem_cons.mp z with rfl | z
            · exact s1.free (fr_none hp)
            · exact s1.free (h2 a z).1
          | false =>
            exact .lst hD (fun z => (fr_none hp).not (re1.odx p z)) (hM.2.mono fun a z => .inl (.inl z))
      · simp only [if_neg hl] at po; exact po.elim
theorem se_comp {elt tg iter : Expr} {ifs : List Expr} {scope : Scope} {own : List (Str × Nat)} {pos : Pos} (hK : t.K.K = X.K) (hc : X.calm = true) (hN : X.N.Nodup) (hi : PI X tg iter (iP t Ri it)) (ok : BlkOk X.N X.env.scope scope own) (sub : ∀ j ∈ Zs, j ∈ own.map (·.2))
    (hg : ∀ (s : Shared) (H : Hp) (C : Addr) (cl : List (Str × Addr)) (fp : List Addr), PG (X.blk s H scope (compEnvC scope cl C X.env) fp) tg (gP t.still Zs mt))
    (ht : ∀ (s : Shared) (H : Hp) (C : Addr) (cl : List (Str × Addr)) (fp : List Addr), PTs (X.blk s H scope (compEnvC scope cl C X.env) fp) ifs (tP t.still tt))
    (he : ∀ (s : Shared) (H : Hp) (C : Addr) (cl : List (Str × Addr)) (fp : List Addr), PE (X.blk s H scope (compEnvC scope cl C X.env) fp) elt (eP t.still Re el))
    (hs : ∀ x, foldedSetIterable iter X.env x = pure x := by intro _; rfl) : PE X (.ListComp elt [⟨tg, iter, ifs, 0⟩] scope pos) (eP t (Ri ++ Re) (eComp Ri (own.map (·.2)) it mt tt el)) :=
  (pe_lc hc hN hi ok hg ht he hs).imp fun _ _ _ h => comp_read sub h
theorem ss_setComp {i : Nat} {y : Str} {py spos : Pos} {elt tg iter : Expr} {ifs : List Expr} {scope : Scope} {own : List (Str × Nat)} {pos : Pos} (hK : t.K.K = X.K) (hc : X.calm = true) (hN : X.N.Nodup) (hy : X.N[i]? = some y) (hyl : X.env.scope.names.lookup y = some .local)
    (hsw : swapsWith (.ListComp elt [⟨tg, iter, ifs, 0⟩] scope pos) (some (.Name y py)) spos.line X.env = pure true) (hi : PI X tg iter (iP t Ri it)) (ok : BlkOk X.N X.env.scope scope own) (sub : ∀ j ∈ Zs, j ∈ own.map (·.2))
    (hg : ∀ (s : Shared) (H : Hp) (C : Addr) (cl : List (Str × Addr)) (fp : List Addr), PG (X.blk s H scope (compEnvC scope cl C X.env) fp) tg (gP t.still Zs mt))
    (ht : ∀ (s : Shared) (H : Hp) (C : Addr) (cl : List (Str × Addr)) (fp : List Addr), PTs (X.blk s H scope (compEnvC scope cl C X.env) fp) ifs (tP t.still tt))
    (he : ∀ (s : Shared) (H : Hp) (C : Addr) (cl : List (Str × Addr)) (fp : List Addr), PE (X.blk s H scope (compEnvC scope cl C X.env) fp) elt (eP t.still Re el))
    (hs : ∀ x, foldedSetIterable iter X.env x = pure x := by intro _; rfl) : PS X (.Assign [.Name y py] (.ListComp elt [⟨tg, iter, ifs, 0⟩] scope pos) spos) (sP t (mSet i (Ri ++ Re) (eComp Ri (own.map (·.2)) it mt tt el))) :=
  (ps_setLc hc hN hy hyl hsw hi ok hg ht he hs).imp fun D σ H ⟨B, O, ow, env, re, o⟩ => comp_read sub ⟨B, O, ow, env, re, mOf_read re.ext o fun fr d v H1 s rv o1 => by
    obtain ⟨ow', re'⟩ := re.bind (i := i) s rv
    exact o1 ow' _ H1 re'⟩
theorem sts_nil : PTs X [] (tP t tYes) := ⟨fun pins s σ H Q I ⟨B, O, ow, env, re, po⟩ => pts_nil.run pins s σ H Q I po.here⟩
theorem sts_one {c : Expr} (h : PT X c (tP t tt)) : PTs X [c] (tP t tt) := pts_one h
end
end S

/-! x * n -/
namespace S
open PySem L2 PySem.Spec PyProof.Rows

/-- the same tuple again -/
theorem tmul_same (l : Addr) (items : Array Value) (n : Nat) (dd : Option Addr) (sl : Array (Option Value)) (x : Int) (u : Tok) (c0 : (decide (x < -(2 ^ 63)) || decide (x ≥ 2 ^ 63)) = false) (c1 : (items.isEmpty || x == 1) = true) :
    Meets (Builtin.«tuple.__mul__» ⟨[.ref l, .int x u], []⟩) (fun _ R s => s.heap.get? l = some { cls := .type "tuple", dict := dd, data := .seq items n, slots := sl } ∧ R (.ok (.ret (Value.ref l))) s) :=
  .of_wp fun prog w A R s h => by
    obtain ⟨hp, g, d, tk, os⟩ := s
    obtain ⟨hl, h⟩ := h
    have f1 := AutoSeq1.idx_int
    wp_walk using wpAny_loadPart' hl
    repeat (first
      | (refine wpAny_ite_false (decide_eq_false (by rw [c0]; exact Bool.false_ne_true)) ?_; wp_walk using wpAny_loadPart' hl)
      | (refine wpAny_ite_true (decide_eq_true c1) ?_; wp_walk using wpAny_loadPart' hl))
    exact ⟨_, rfl, h⟩
/-- nothing -/
theorem tmul_none (l : Addr) (items : Array Value) (n : Nat) (dd : Option Addr) (sl : Array (Option Value)) (x : Int) (u : Tok) (c0 : (decide (x < -(2 ^ 63)) || decide (x ≥ 2 ^ 63)) = false) (c1 : (items.isEmpty || x == 1) = false) (c2 : (decide (x ≤ 0) || items.isEmpty) = true) :
    Meets (Builtin.«tuple.__mul__» ⟨[.ref l, .int x u], []⟩) (fun _ R s => s.heap.get? l = some { cls := .type "tuple", dict := dd, data := .seq items n, slots := sl } ∧
      R (.ok (.ret (Value.ref s.heap.objs.size))) { s with heap := s.heap.push { cls := Value.type "tuple", data := Data.seq #[] }, toks := s.toks }) :=
  .of_wp fun prog w A R s h => by
    obtain ⟨hp, g, d, tk, os⟩ := s
    obtain ⟨hl, h⟩ := h
    have f1 := AutoSeq1.idx_int
    wp_walk using wpAny_loadPart' hl
    repeat (first
      | (refine wpAny_ite_false (decide_eq_false (by rw [c0]; exact Bool.false_ne_true)) ?_; wp_walk using wpAny_loadPart' hl)
      | (refine wpAny_ite_false (decide_eq_false (by rw [c1]; exact Bool.false_ne_true)) ?_; wp_walk using wpAny_loadPart' hl)
      | (refine wpAny_ite_true (decide_eq_true c2) ?_; wp_walk using wpAny_loadPart' hl))
    exact ⟨_, rfl, h⟩

def rRepU (K : PySem.W.Frag) : R2 := fun x y H Q => ∃ l k xs, x = .ref l ∧ y = .int k ∧ SqT K H l xs ∧ -(2 ^ 63) ≤ k ∧ k < 2 ^ 63 ∧ xs.length * k.toNat ≤ sizeLine ∧
  ((xs = [] ∨ k = 1) → Q (.ref l) H) ∧ (¬ (xs = [] ∨ k = 1) → ∀ p, H p = none → Q (.ref p) (upd H p (.tup (List.replicate k.toNat xs).flatten)))
section
variable {X : Cx} {t : Ctx}
theorem op_repU : OpR X (binaryOp .Mult) (rRepU X.K) := by
  intro pins s σ H x y v u Q I rx ry h
  obtain ⟨l, k, xs, rfl, rfl, hT, k1, k2, hz, q1, q2⟩ := h
  cases rx
  obtain ⟨tk, rfl⟩ := ry
  obtain ⟨its, r, ⟨⟨cls, dd, data, sl⟩, ho, hc, n, hd⟩, hs⟩ := I.tuple hT
  simp only at hc hd
  subst hc hd
  have hle : xs.length = its.length := r.length
  have c0 : (decide (k < -(2 ^ 63)) || decide (k ≥ 2 ^ 63)) = false := by
    rw [decide_eq_false (by omega), decide_eq_false (by omega)]; rfl
  have ie : its.toArray.isEmpty = xs.isEmpty := by
    cases xs with
    | nil => cases r; rfl
    | cons _ _ => cases r; rfl
  refine wpAny_binaryOp_repeat_ref (T := "tuple") (U := "int") (by decide) ⟨_, ho, rfl⟩ (fun s' => typeIs_int s' k tk) noFill_tuple_mul F.fills_int_mul F.slot_int_rmul repeat_tuple F.slot_int_index.lookup
    (call_meets F.slot_int_rmul (typeIs_int s k tk) F.entry_int_rmul (F.args_int_rmul_2 _ _) (int_rmul_tuple k tk l its.toArray n dd sl) ⟨ho, rfl, ⟨_, ho, rfl⟩, ?_⟩)
  by_cases hc1 : xs = [] ∨ k = 1
  · have c1 : (its.toArray.isEmpty || k == 1) = true := by
      rw [ie]
      rcases hc1 with h | h
      · rw [h]; rfl
      · rw [h]; simp
    exact call_meets F.slot_tuple_mul ⟨_, ho, rfl⟩ F.entry_tuple_mul (F.args_tuple_mul_2 _ _) (tmul_same l its.toArray n dd sl k tk c0 c1) ⟨ho, .ref l, H, I, rfl, q1 hc1⟩
  · have hne : xs ≠ [] := fun e => hc1 (.inl e)
    have hk1 : k ≠ 1 := fun e => hc1 (.inr e)
    have hi : its.toArray.isEmpty = false := by
      rw [ie]; cases xs with
      | nil => exact absurd rfl hne
      | cons _ _ => rfl
    have c1 : (its.toArray.isEmpty || k == 1) = false := by
      rw [hi, Bool.false_or]; exact beq_eq_false_iff_ne.mpr hk1
    by_cases hk0 : k ≤ 0
    · have c2 : (decide (k ≤ 0) || its.toArray.isEmpty) = true := by rw [decide_eq_true hk0]; rfl
      have e0 : (List.replicate k.toNat xs).flatten = [] := by
        have : k.toNat = 0 := by omega
        rw [this]; rfl
      refine call_meets F.slot_tuple_mul ⟨_, ho, rfl⟩ F.entry_tuple_mul (F.args_tuple_mul_2 _ _) (tmul_none l its.toArray n dd sl k tk c0 c1 c2) ⟨ho, ?_⟩
      have q := q2 hc1 s.heap.objs.size (I.hok.fresh (Nat.le_refl _))
      rw [e0] at q
      exact ⟨.ref s.heap.objs.size, _, I.laid (t' := s.toks) (o := .tup []) (fun b ob q => Heap.get?_push_of_some _ q) (Nat.le_refl _) ⟨Nat.zero_le _, [], .nil, IsTup.new _ _⟩, rfl, q⟩
    · have c2 : (decide (k ≤ 0) || its.toArray.isEmpty) = false := by rw [hi, decide_eq_false hk0]; rfl
      have hm : ((its.toArray.size : Nat) : Int) * k ≤ 16777216 := by
        have e1 : (its.toArray.size : Nat) = xs.length := by rw [List.size_toArray, hle]
        have e2 : ((xs.length * k.toNat : Nat) : Int) = (xs.length : Int) * k := by
          rw [Int.natCast_mul, Int.toNat_of_nonneg (by omega)]
        rw [e1, ← e2]
        have : (sizeLine : Nat) = 16777216 := by decide
        omega
      have flen : (List.replicate k.toNat its).flatten.length ≤ sizeLine := by
        rw [PyProof.Rows.lm_len_rep_flat, ← hle, Nat.mul_comm]; exact hz
      have c4 : Builtin.Tuple.tupleTooMany (((its.toArray.size : Nat) : Int) * k) = false := by
        unfold Builtin.Tuple.tupleTooMany
        rw [sizeLine_eq]
        exact decide_eq_false (by omega)
      refine call_meets F.slot_tuple_mul ⟨_, ho, rfl⟩ F.entry_tuple_mul (F.args_tuple_mul_2 _ _) (tuple_mulW l its.toArray n dd sl k tk c0 c1 c2 (by omega) c4 (by rw [size_rep, List.size_toArray]; exact flen)) ⟨ho, ?_⟩
      rw [size_rep]
      refine ⟨.ref s.heap.objs.size, _, I.laid (t' := s.toks) (o := .tup (List.replicate k.toNat xs).flatten) (fun b ob q => Heap.get?_push_of_some _ q) (Nat.le_refl _) ?_, rfl, q2 hc1 _ (I.hok.fresh (Nat.le_refl _))⟩
      exact ⟨by rw [PyProof.Rows.lm_len_rep_flat, Nat.mul_comm]; exact hz, _, r.rep k.toNat, IsTup.new _ _⟩
def rMulU (K : PySem.W.Frag) : R2 := fun x y H Q => rI CMulW (fun i j => .int (i * j)) x y H Q ∨ (rRepU K x y H Q ∨ rRep x y H Q)
theorem op_mulU : OpR X (binaryOp .Mult) (rMulU X.K) := op_mulW.or (op_repU.or op_rep)
theorem ok_mul : GOk2 t (rMulU t.K) gMul := by
  intro H O x y dx dy Q hO rx ry po
  cases rx with
  | int i =>
    cases ry with
    | int j =>
      unfold gMul at po
      by_cases hl : i.natAbs.log2 + j.natAbs.log2 < 1000000
      · simp only [if_pos hl] at po
        exact .inl ⟨i, j, rfl, rfl, hl, post_i po⟩
      · simp only [if_neg hl] at po
        exact False.elim po
    | _ => exact False.elim po
  | @tup a xs ds h1 h2 =>
    cases ry with
    | int k =>
      unfold gMul at po
      by_cases hl : ds.length * k.toNat ≤ sizeLine ∧ -(2 ^ 63) ≤ k ∧ k < 2 ^ 63
      · simp only [if_pos hl] at po
        refine .inr (.inl ⟨a, k, xs, rfl, rfl, h1, hl.2.1, hl.2.2, by rw [h2.len]; exact hl.1, fun e => ?_, fun _ => newTup (h2.rep k.toNat) po⟩)
        have e2 : (List.replicate k.toNat ds).flatten = ds := by
          rcases e with e | e
          · subst e
            cases h2
            induction k.toNat with
            | zero => rfl
            | succ n ih => rw [List.replicate_succ, List.flatten_cons, ih]; rfl
          · subst e; simp
        rw [e2] at po
        exact po.here (.tup h1 h2)
      · simp only [if_neg hl] at po
        exact False.elim po
    | _ => exact False.elim po
  | @lst a xs ds h1 n1 h2 =>
    cases ry with
    | int k =>
      unfold gMul at po
      by_cases hl : ds.length * k.toNat ≤ sizeLine ∧ -(2 ^ 63) ≤ k ∧ k < 2 ^ 63
      · simp only [if_pos hl] at po
        exact .inr (.inr ⟨a, k, xs, rfl, rfl, h1, hl.2.1, hl.2.2, by rw [h2.len]; exact hl.1, newLst hO (h2.rep k.toNat) po⟩)
      · simp only [if_neg hl] at po
        exact False.elim po
    | _ => exact False.elim po
  | _ => exact False.elim po
end
end S

/-! chains of comparisons, downward ranges, reversed, join -/
namespace S
open PySem L2 PySem.Spec PyProof.Rows

def eChain (g g' : D → D → RD) (a b c : Env → RD) : Env → RD := fun env => (a env).bind fun x => (b env).bind fun y => (g x.2 y.2).bind fun k => (tB k.2).bind fun k => if k = true then (c env).bind fun z => g' y.2 z.2 else .ok (false, .bl false)
def rangeD (hi : Int) (n : Nat) : List D := (List.range n).map fun (k : Nat) => D.int (hi - (k : Int))
def iRangeD (m k : Env → RD) : Env → Rs (List D) := fun env => (m env).bind fun x => (k env).bind fun y => match x.2, y.2 with
  | .int i, .int j => if -(2 ^ 62) ≤ i ∧ i < 2 ^ 62 ∧ -(2 ^ 62) ≤ j ∧ j < 2 ^ 62 then .ok (rangeD i (i - j).toNat) else .no
  | _, _ => .no
def iRevs (m : Env → RD) : Env → Rs (List D) := fun env => (m env).bind fun x => (itemsOf x.2).bind fun ds => .ok ds.reverse
def strsOf : List D → Option (List Str)
  | [] => some []
  | .str s :: r => (strsOf r).map (s :: ·)
  | _ => none
def gJoin (x y : D) : RD := match x, y with
  | .str a, .lst ds => match strsOf ds with
    | some ys => if (ys.map (·.length)).sum + ys.length * a.length ≤ 16777216 then .ok (false, .str (Txt.join a ys)) else .no
    | none => .no
  | _, _ => .no

def eJoin (a b : Env → RD) : Env → RD := fun env => (a env).bind fun x => match x.2 with
  | .str _ => (b env).bind fun y => gJoin x.2 y.2
  | _ => .no
section
variable {X : Cx} {t : Ctx} {Ra Rb Rc : List Nat} {ma mb mc : Env → RD} {a b c : Expr} {pos : Pos}
theorem chain_read {r r' : R2} {g g' : D → D → RD} (hg : GOk2 t r g) (hg' : GOk2 t r' g') {σ : L2.St} {H : Hp} {Q : VK} (h : eP t (Ra ++ (Rb ++ Rc)) (eChain g g' ma mb mc) σ H Q) : tChain r r' (eP t Ra ma) (eP t Rb mb) (eP t Rc mc) σ H Q := by
  obtain ⟨B, O, ow, env, re, po⟩ := h
  refine ⟨B, O, ow, env, re, Post.bind1 po fun fr d v H1 _ s1 rv po1 => ?_⟩
  have re1 := re.same s1
  refine ⟨B, O, ow, env, re1, Post.bind1 po1 fun fr2 d2 v2 H2 _ s2 rv2 po2 => ?_⟩
  have re2 := re1.same s2
  have r1 := (rv.rp re.odx (O' := OwX O (Ra ++ (Rb ++ Rc)) ow) (fun _ z => owx_l z)).same s2
  have r2 := rv2.rp re1.odx (O' := OwX O (Ra ++ (Rb ++ Rc)) ow) (fun _ z => owx_l (owx_r z))
  refine hg H2 _ v v2 d d2 _ re2.odx r1 r2 (Post.bind1 po2 fun fr3 d3 v3 H3 _ s3 rv3 po3 => ?_)
  have re3 := re2.same s3
  obtain ⟨k, h1, h2, po4⟩ := Post.tb (rv3.rp re2.odx fun _ z => z) po3
  refine ⟨k, h1, ?_⟩
  cases k with
  | true =>
    refine (if_pos rfl).mpr ⟨B, O, ow, env, re3, Post.bind1 po4 fun fr5 d5 v5 H5 _ s5 rv5 po5 => ?_⟩
    exact hg' H5 _ v2 v5 d2 d5 Q (re3.same s5).odx ((r2.same s3).same s5) (rv5.rp re3.odx fun _ z => owx_r (owx_r z)) po5
  | false => exact (if_neg Bool.false_ne_true).mpr (Post.here po4 (.bl false))
theorem se_chain {op op' : CmpOp} {r r' : R2} {g g' : D → D → RD} (ho : OpR X (compareOp op) r) (ho' : OpR X (compareOp op') r') (hg : GOk2 t r g) (hg' : GOk2 t r' g') (ha : PE X a (eP t Ra ma)) (hb : PE X b (eP t Rb mb)) (hc : PE X c (eP t Rc mc))
    (hm : lastMarks [op, op'] [b, c] = false := by with_unfolding_all rfl) : PE X (.Compare a [op, op'] [b, c] pos) (eP t (Ra ++ (Rb ++ Rc)) (eChain g g' ma mb mc)) :=
  (pe_chain ho ho' ha hb hc hm).imp fun _ _ _ h => chain_read hg hg' h
theorem st_chain {op op' : CmpOp} {r r' : R2} {g g' : D → D → RD} (ho : OpR X (compareOp op) r) (ho' : OpR X (compareOp op') r') (hg : GOk2 t r g) (hg' : GOk2 t r' g') (ha : PE X a (eP t Ra ma)) (hb : PE X b (eP t Rb mb)) (hc : PE X c (eP t Rc mc))
    (hm : lastMarks [op, op'] [b, c] = false := by with_unfolding_all rfl) : PT X (.Compare a [op, op'] [b, c] pos) (tP t (tE (eChain g g' ma mb mc))) :=
  (pt_chain ho ho' ha hb hc hm).imp fun _ _ _ h => te_read (fun _ q => chain_read hg hg' q) h
theorem walk_down {K : PySem.W.Frag} {O : Addr → Prop} {H1 : Hp} {hi : Int} {n : Nat} : WalkOk K O (Itc hi (-1) n) H1 (rangeD hi n) := by
  have hl : (rangeD hi n).length = n := by simp [rangeD]
  refine ⟨fun H2 k i hi => by rw [hl] at hi; exact hi, fun H2 k => by rw [hl]; exact Nat.le_refl n, fun H2 O' k hO _ i d x H3 e y => ?_⟩
  obtain ⟨e1, rfl⟩ := y
  subst e1
  refine ⟨Same.refl _, ?_⟩
  simp only [rangeD, List.getElem?_map, Option.map_eq_some_iff] at e
  obtain ⟨k, h1, rfl⟩ := e
  have hi2 : i < n := by
    have := (List.getElem?_eq_some_iff.mp h1).1
    simpa using this
  rw [List.getElem?_range hi2] at h1
  cases h1
  have e2 : hi + (i : Int) * (-1) = hi - (i : Int) := by omega
  rw [e2]
  exact .int _
theorem si_rangeD {tg : Expr} {p p2 p3 : Pos} {kk : Nat} (hg : Gl X "range") (hm : X.mg "range" = none) (h : PE X a (eP t Ra ma)) (h' : PE X b (eP t Rb mb))
    (hs : starEach [a, b, .UnaryOp .USub (.Constant (.int 1) kk p2) p3] X.env = (false, eval a X.env) :: starEach [b, .UnaryOp .USub (.Constant (.int 1) kk p2) p3] X.env := by rfl)
    (hs2 : starEach [b, .UnaryOp .USub (.Constant (.int 1) kk p2) p3] X.env = (false, eval b X.env) :: starEach [.UnaryOp .USub (.Constant (.int 1) kk p2) p3] X.env := by rfl)
    (hs3 : starEach [.UnaryOp .USub (.Constant (.int 1) kk p2) p3] X.env = (false, eval (.UnaryOp .USub (.Constant (.int 1) kk p2) p3) X.env) :: starEach [] X.env := by rfl)
    (hpl : (backTo pos (starEach [b, .UnaryOp .USub (.Constant (.int 1) kk p2) p3] X.env)).any (·.1) = false := by rfl) :
    PI X tg (.Call (.Name "range" p) [a, b, .UnaryOp .USub (.Constant (.int 1) kk p2) p3] [] pos) (iP t [] (iRangeD ma mb)) := by
  refine (pi_range3 hg hm (pa_cons h (pa_cons h' (pa_cons (pe_un un_neg pe_int) pa_nil hs3) hs2) hs) hs hpl).imp fun σ H Q ⟨B, O, ow, env, re, q⟩ => ?_
  refine ⟨B, O, ow, env, re, ?_⟩
  unfold iRangeD at q
  cases qm : ma env with
  | ok z =>
    obtain ⟨fr, d⟩ := z
    rw [qm] at q
    intro v H1 s rv
    have r := rv.rp re.odx (O' := OwX O Ra ow) fun _ z => z
    refine ⟨B, O, ow, env, re.same s, ?_⟩
    cases qk : mb env with
    | ok z2 =>
      obtain ⟨fr2, d2⟩ := z2
      simp only [Rs.bind_ok, qk] at q
      intro v2 H2 s2 rv2
      have r2 := rv2.rp (re.same s).odx (O' := OwX O Rb ow) fun _ z => z
      cases d with
      | int i =>
        cases d2 with
        | int j =>
          cases r; cases r2
          by_cases hn : -(2 ^ 62) ≤ i ∧ i < 2 ^ 62 ∧ -(2 ^ 62) ≤ j ∧ j < 2 ^ 62
          · simp only [if_pos hn] at q
            exact ⟨1, rfl, i, j, -1, (i - j).toNat, rfl, RgC.neg hn.1 hn.2.1 hn.2.2.1 hn.2.2.2, q _ H2 (s.trans s2) walk_down⟩
          · simp only [if_neg hn] at q
        | _ => exact q.elim
      | _ => cases d2 <;> exact q.elim
    | ex n a => simp only [Rs.bind_ok, qk] at q; exact fun C dx H2 s2 z => q C dx H2 (s.trans s2) z
    | no => simp only [Rs.bind_ok, qk] at q; exact q
  | ex n a => rw [qm] at q; exact q
  | no => rw [qm] at q; exact q
theorem strs_of : ∀ {ds : List D} {ys : List Str} {K : PySem.W.Frag} {H : Hp} {O : Addr → Prop} {vs : List V}, strsOf ds = some ys → RpL K H O vs ds → vs = ys.map V.str
  | [], ys, _, _, _, _, e, .nil => by cases e; rfl
  | d :: ds, ys, K, H, O, _, e, .cons r rs => by
    cases d with
    | str s =>
      cases r
      simp only [strsOf] at e
      cases q : strsOf ds with
      | none => rw [q] at e; cases e
      | some zs =>
        rw [q] at e
        cases e
        rw [strs_of q rs]
        rfl
    | _ => simp [strsOf] at e
theorem se_join {apos : Pos} (hK : t.K.K = X.K) (ho : PE X a (eP t Ra ma)) (he : PE X b (eP t Rb mb)) (hs : starEach [b] X.env = [(false, eval b X.env)] := by rfl) (hbase : attributeBase a "join" X.env (eval a X.env) = eval a X.env := by rfl) (hline : (apos.endLine == pos.line) = true := by rfl) :
    PE X (.Call (.Attribute a "join" apos) [b] [] pos) (eP t (Ra ++ Rb) (eJoin ma mb)) := by
  refine (pe_join ho he hs hbase hline).imp fun σ H Q ⟨B, O, ow, env, re, po⟩ => ⟨B, O, ow, env, re, Post.bind1 po fun fr d v H1 _ s1 rv po1 => ?_⟩
  have re1 := re.same s1
  have r1 := rv.rp re.odx (O' := OwX O (Ra ++ Rb) ow) (fun _ z => owx_l z)
  cases qd : d with
  | str z =>
    subst qd
    cases r1
    refine ⟨⟨z, rfl⟩, B, O, ow, env, re1, Post.bind1 po1 fun fr2 d2 v2 H2 _ s2 rv2 po2 => ?_⟩
    have r2 := rv2.rp re1.odx (O' := OwX O (Ra ++ Rb) ow) (fun _ z => owx_r z)
    cases r2 with
    | @lst p xs ds h1 n1 h2 =>
      unfold gJoin at po2
      cases q : strsOf ds with
      | none => simp only [q] at po2; exact po2.elim
      | some ys =>
        simp only [q] at po2
        by_cases hl : (ys.map (·.length)).sum + ys.length * z.length ≤ 16777216
        · simp only [if_pos hl] at po2
          exact ⟨z, p, ys, rfl, rfl, .inl (SqL.of (by rw [← strs_of q h2]; exact h1)), hl, po2.here (.str _)⟩
        · simp only [if_neg hl] at po2; exact po2.elim
    | _ => exact po2.elim
  | _ => subst qd; exact po1.elim
end
end S

/-! the ends, is None, truth -/
namespace S
open PySem PySem.Spec PyProof.Rows L2
theorem bt_len : bootBuiltins "len" = some (.builtin "len") := by decide +kernel
theorem bt_abs : bootBuiltins "abs" = some (.builtin "abs") := by decide +kernel
theorem bt_max : bootBuiltins "max" = some (.builtin "max") := by decide +kernel
theorem bt_min : bootBuiltins "min" = some (.builtin "min") := by decide +kernel
theorem bt_isinstance : bootBuiltins "isinstance" = some (.builtin "isinstance") := by decide +kernel
theorem bt_sorted : bootBuiltins "sorted" = some (.builtin "sorted") := by decide +kernel
theorem bt_sum : bootBuiltins "sum" = some (.builtin "sum") := by decide +kernel
theorem bt_all : bootBuiltins "all" = some (.builtin "all") := by decide +kernel
theorem bt_any : bootBuiltins "any" = some (.builtin "any") := by decide +kernel
theorem bt_ord : bootBuiltins "ord" = some (.builtin "ord") := by decide +kernel
theorem bt_chr : bootBuiltins "chr" = some (.builtin "chr") := by decide +kernel
theorem bt_int : bootBuiltins "int" = some (.type "int") := by decide +kernel
theorem bt_bool : bootBuiltins "bool" = some (.type "bool") := by decide +kernel
theorem bt_str : bootBuiltins "str" = some (.type "str") := by decide +kernel
theorem bt_tuple : bootBuiltins "tuple" = some (.type "tuple") := by decide +kernel
theorem bt_list : bootBuiltins "list" = some (.type "list") := by decide +kernel
theorem bt_dict : bootBuiltins "dict" = some (.type "dict") := by decide +kernel
theorem bt_enumerate : bootBuiltins "enumerate" = some (.type "enumerate") := by decide +kernel
theorem bt_range : bootBuiltins "range" = some (.type "range") := by decide +kernel
theorem bt_reversed : bootBuiltins "reversed" = some (.type "reversed") := by decide +kernel
theorem bt_zip : bootBuiltins "zip" = some (.type "zip") := by decide +kernel
theorem bt_type : bootBuiltins "type" = some (.type "type") := by decide +kernel
theorem bt_float : bootBuiltins "float" = some (.type "float") := by decide +kernel
theorem bt_bytes : bootBuiltins "bytes" = some (.type "bytes") := by decide +kernel
theorem bt_set : bootBuiltins "set" = some (.type "set") := by decide +kernel
theorem only_frz {K : PySem.W.Frag} {H : Hp} {a : Addr} {ns : List Int} (h : Only H) (q : SqL K H a (ns.map V.int)) : FrzL K H a ns := by
  rcases q with (q | ⟨o, q⟩) | q
  · rcases h a with e | ⟨o, xs, e⟩
    · rw [e] at q; cases q
    · rw [e] at q; cases q
  · exact .inl ⟨o, q⟩
  · exact .inr q
theorem cx_none {P : Program} {w : World} {H : Hp} {s s' : Shared} {e : Value} (h : L2.CX P w [] H s (fun _ _ _ => False) e s') : False := by
  obtain ⟨_, _, _, _, _, h⟩ := h
  exact h.2.2.2.2.2.2.2
section
variable {X : Cx} {t : Ctx} {a b c : Expr} {p pos : Pos} {j : _} {R : List Nat} {m : Env → RD}
theorem isn_go {H : Hp} {O : Addr → Prop} {v : V} {d : D} {Q : VK} (r : Rp t.K H O v d) (h : Post t H O (gIsN d) Q) : Q (.bl (decide (v = .non))) H := by
  cases d <;> first | exact False.elim h | (cases r <;> exact h (.bl _) H (Sm.refl H) (.bl _))
theorem notn_go {H : Hp} {O : Addr → Prop} {v : V} {d : D} {Q : VK} (r : Rp t.K H O v d) (h : Post t H O (gNotN d) Q) : Q (.bl (!decide (v = .non))) H := by
  cases d <;> first | exact False.elim h | (cases r <;> exact h (.bl _) H (Sm.refl H) (.bl _))
theorem PC.imp' {op : CmpOp} {e1 e2 : TE} (h : PC X op a b e1) (k : ∀ σ H Q, e2 σ H Q → e1 σ H Q) : PC X op a b e2 := ⟨fun pins s σ H Q I w => h.run pins s σ H Q I (k σ H Q w)⟩
theorem sc_isN (ha : PE X a (eP t R m)) : PC X .Is a (.Constant .none j p) (eP t R (eUn gIsN m)) :=
  PC.imp' (pc_isN ha) fun σ H Q ⟨B, O, ow, env, re, po⟩ => ⟨B, O, ow, env, re, Post.bind1 po fun fr d v H1 _ s1 rv po1 => isn_go (rv.rp re.odx fun _ z => z) po1⟩
theorem sc_notN (ha : PE X a (eP t R m)) : PC X .IsNot a (.Constant .none j p) (eP t R (eUn gNotN m)) :=
  PC.imp' (pc_notN ha) fun σ H Q ⟨B, O, ow, env, re, po⟩ => ⟨B, O, ow, env, re, Post.bind1 po fun fr d v H1 _ s1 rv po1 => notn_go (rv.rp re.odx fun _ z => z) po1⟩
theorem se_isN (ha : PE X a (eP t R m)) : PE X (.Compare a [.Is] [.Constant .none j p] pos) (eP t R (eUn gIsN m)) := pe_cmp (sc_isN ha)
theorem se_notN (ha : PE X a (eP t R m)) : PE X (.Compare a [.IsNot] [.Constant .none j p] pos) (eP t R (eUn gNotN m)) := pe_cmp (sc_notN ha)
theorem st_isN (ha : PE X a (eP t R m)) : PT X (.Compare a [.Is] [.Constant .none j p] pos) (tP t (tE (eUn gIsN m))) :=
  (pt_cmp (sc_isN ha)).imp fun _ _ _ h => te_read (fun _ q => q) h
theorem st_notN (ha : PE X a (eP t R m)) : PT X (.Compare a [.IsNot] [.Constant .none j p] pos) (tP t (tE (eUn gNotN m))) :=
  (pt_cmp (sc_notN ha)).imp fun _ _ _ h => te_read (fun _ q => q) h
/-- a module's number -/
theorem se_gInt {x : Str} {i : Int} {tk : Tok} (hg : Gl X x) (hm : X.mg x = some (.int i tk)) (hdb : (x == ("__debug__" : Str)) = false := by decide) : PE X (.Name x p) (eP t [] (eC (.int i))) :=
  se_c (pe_glob (v := .int i) hg hm ⟨tk, rfl⟩ (hd := hdb)) fun _ _ => .int _
/-- a value's truth -/
def tTru (d : D) : Rs Bool := match d with
  | .non => .ok false | .bl b => .ok b | .int i => .ok (i != 0)
  | .tup xs => .ok (!xs.isEmpty) | .lst xs => .ok (!xs.isEmpty) | .scr ns => .ok (!ns.isEmpty)
  | _ => .no
def tT (a : Env → RD) : Env → Rs Bool := fun env => (a env).bind fun x => tTru x.2
theorem RpL.emp {K : PySem.W.Frag} {H : Hp} {O : Addr → Prop} {vs : List V} {ds : List D} (r : RpL K H O vs ds) : (!vs.isEmpty) = !ds.isEmpty := by
  cases r <;> rfl
theorem tru_go {H : Hp} {O : Addr → Prop} {v : V} {d : D} {Q : Bool → Hp → Prop} (r : Rp t.K H O v d) (h : PostT t H (tTru d) Q) : ∃ k, TruV t.K v H k ∧ Q k H := by
  cases d with
  | non => cases r; exact ⟨_, rfl, h H (Sm.refl H)⟩
  | bl b => cases r; exact ⟨_, rfl, h H (Sm.refl H)⟩
  | int b => cases r; exact ⟨_, rfl, h H (Sm.refl H)⟩
  | tup xs =>
    cases r with
    | tup h1 h2 => exact ⟨_, .inr (.inl ⟨_, h1, rfl⟩), by rw [h2.emp]; exact h H (Sm.refl H)⟩
  | lst xs =>
    cases r with
    | lst h1 h0 h2 => exact ⟨_, .inl ⟨_, .inl (.inl h1), rfl⟩, by rw [h2.emp]; exact h H (Sm.refl H)⟩
  | scr ns =>
    cases r with
    | scr q => exact ⟨_, .inl ⟨_, q.sql, rfl⟩, by have := h H (Sm.refl H); cases ns <;> exact this⟩
  | _ => exact False.elim h
theorem st_tru {e : Expr} (hK : t.K.K = X.K) (h : PE X e (eP t R m)) (he : ∀ whole, isTrue e X.env whole = (do let v ← whole; standAt e.pos; holding [v] (truthy v)) := by intro _; rfl) : PT X e (tP t (tT m)) :=
  (pt_truth h he).imp fun σ H Q ⟨B, O, ow, env, re, po⟩ => ⟨B, O, ow, env, re, Post.bindT po fun fr d v H1 _ s1 rv po1 => by
    rw [← hK]; exact tru_go (rv.rp (O' := OwX O R ow) re.odx fun _ z => z) po1⟩
end
end S

/-! all, any, sum, sorted; isinstance of several classes -/
namespace S
open PySem PySem.Spec PyProof.Rows L2
def intsOf : List D → Option (List Int)
  | [] => some []
  | .int n :: r => (intsOf r).map (n :: ·)
  | _ => none
def bolsOf : List D → Option (List Bool)
  | [] => some []
  | .bl n :: r => (bolsOf r).map (n :: ·)
  | _ => none
theorem ints_of {K : PySem.W.Frag} {H : Hp} {O : Addr → Prop} : ∀ {ds : List D} {ns : List Int} {vs : List V}, intsOf ds = some ns → RpL K H O vs ds → vs = ns.map V.int
  | [], ns, vs, h, r => by cases h; cases r; rfl
  | d :: ds, ns, vs, h, r => by
    cases d with
    | int n =>
      rw [intsOf] at h
      cases q : intsOf ds with
      | none => rw [q] at h; cases h
      | some ms =>
        rw [q] at h; cases h
        cases r with
        | cons r1 r2 => cases r1; rw [ints_of q r2]; rfl
    | _ => cases h
theorem bols_of {K : PySem.W.Frag} {H : Hp} {O : Addr → Prop} : ∀ {ds : List D} {ns : List Bool} {vs : List V}, bolsOf ds = some ns → RpL K H O vs ds → vs = ns.map V.bl
  | [], ns, vs, h, r => by cases h; cases r; rfl
  | d :: ds, ns, vs, h, r => by
    cases d with
    | bl n =>
      rw [bolsOf] at h
      cases q : bolsOf ds with
      | none => rw [q] at h; cases h
      | some ms =>
        rw [q] at h; cases h
        cases r with
        | cons r1 r2 => cases r1; rw [bols_of q r2]; rfl
    | _ => cases h
/-- put into a rising list -/
def insI (n : Int) : List Int → List Int
  | [] => [n]
  | m :: r => if n ≤ m then n :: m :: r else m :: insI n r
def sortI : List Int → List Int
  | [] => []
  | n :: r => insI n (sortI r)
theorem insI_perm (n : Int) : ∀ r, (insI n r).Perm (n :: r)
  | [] => .refl _
  | m :: r => by
    unfold insI
    split
    · exact .refl _
    · exact ((insI_perm n r).cons m).trans (.swap n m r)
theorem sortI_perm : ∀ r, (sortI r).Perm r
  | [] => .refl _
  | n :: r => (insI_perm n _).trans ((sortI_perm r).cons n)
theorem insI_up (n : Int) : ∀ r : List Int, r.Pairwise (· ≤ ·) → (insI n r).Pairwise (· ≤ ·)
  | [], _ => by simp [insI]
  | m :: r, h => by
    unfold insI
    rw [List.pairwise_cons] at h
    split
    · rename_i q
      rw [List.pairwise_cons, List.pairwise_cons]
      refine ⟨fun x hx => ?_, h⟩
      rcases List.mem_cons.mp hx with rfl | hx
      · exact q
      · have := h.1 x hx; omega
    · rename_i q
      rw [List.pairwise_cons]
      refine ⟨fun x hx => ?_, insI_up n r h.2⟩
      rcases List.mem_cons.mp ((insI_perm n r).mem_iff.mp hx) with rfl | hx
      · omega
      · exact h.1 x hx
theorem sortI_up : ∀ r, (sortI r).Pairwise (· ≤ ·)
  | [] => .nil
  | n :: r => insI_up n _ (sortI_up r)
theorem up_uniq : ∀ {a b : List Int}, a.Perm b → a.Pairwise (· ≤ ·) → b.Pairwise (· ≤ ·) → a = b
  | [], b, h, _, _ => by rw [List.nil_perm.mp h]
  | x :: a, [], h, _, _ => by simp at h
  | x :: a, y :: b, h, ha, hb => by
    rw [List.pairwise_cons] at ha hb
    have e : x = y := by
      have h1 : x ∈ y :: b := h.mem_iff.mp (by simp)
      have h2 : y ∈ x :: a := h.mem_iff.mpr (by simp)
      rcases List.mem_cons.mp h1 with h1 | h1
      · exact h1
      · rcases List.mem_cons.mp h2 with h2 | h2
        · exact h2.symm
        · have := ha.1 y h2; have := hb.1 x h1; omega
    subst e
    rw [up_uniq (List.Perm.cons_inv h) ha.2 hb.2]
def fAll (ds : List D) : RD := match ds with
  | [.lst xs] => match bolsOf xs with
    | some bs => b2 (bs.all id)
    | none => .no
  | _ => .no
def fAny (ds : List D) : RD := match ds with
  | [.lst xs] => match bolsOf xs with
    | some bs => b2 (bs.any id)
    | none => .no
  | _ => .no
def fSum (ds : List D) : RD := match ds with
  | [.lst xs] => match intsOf xs with
    | some ns => i2 ns.sum
    | none => .no
  | [.scr ns] => i2 ns.sum
  | _ => .no
def fSorted (ds : List D) : RD := match ds with
  | [.lst xs] => match intsOf xs with
    | some ns => .ok (true, .lst ((sortI ns).map D.int))
    | none => .no
  | _ => .no
section
variable {X : Cx} {t : Ctx}
theorem rpl1 {K : PySem.W.Frag} {H : Hp} {O : Addr → Prop} {xs : List V} {d : D} (r : RpL K H O xs [d]) : ∃ x, xs = [x] ∧ Rp K H O x d := by
  cases r with
  | cons h hs => cases hs; exact ⟨_, rfl, h⟩
theorem ok_all : GOkN t (rAll t.K) fAll := fun H O xs ds Q hO r po => by
  unfold fAll at po
  split at po
  · obtain ⟨x, rfl, r1⟩ := rpl1 r
    split at po
    · rename_i q
      cases r1 with
      | lst h1 h2 h3 => exact ⟨_, _, rfl, .inl (.inl (by rw [← bols_of q h3]; exact h1)), post_b po⟩
    · exact po.elim
  · exact po.elim
theorem ok_any : GOkN t (rAny t.K) fAny := fun H O xs ds Q hO r po => by
  unfold fAny at po
  split at po
  · obtain ⟨x, rfl, r1⟩ := rpl1 r
    split at po
    · rename_i q
      cases r1 with
      | lst h1 h2 h3 => exact ⟨_, _, rfl, .inl (.inl (by rw [← bols_of q h3]; exact h1)), post_b po⟩
    · exact po.elim
  · exact po.elim
theorem ok_sum : GOkN t (rSum t.K) fSum := fun H O xs ds Q hO r po => by
  unfold fSum at po
  split at po
  · obtain ⟨x, rfl, r1⟩ := rpl1 r
    split at po
    · rename_i q
      cases r1 with
      | lst h1 h2 h3 => exact ⟨_, _, rfl, .inl (.inl (by rw [← ints_of q h3]; exact h1)), post_i po⟩
    · exact po.elim
  · obtain ⟨x, rfl, r1⟩ := rpl1 r
    cases r1 with
    | scr h => exact ⟨_, _, rfl, h.sql, post_i po⟩
  · exact po.elim
theorem ok_sorted : GOkN t (rSortedI t.K) fSorted := fun H O xs ds Q hO r po => by
  unfold fSorted at po
  split at po
  · obtain ⟨x, rfl, r1⟩ := rpl1 r
    split at po
    · rename_i q
      cases r1 with
      | lst h1 h2 h3 =>
        refine ⟨_, _, rfl, .inl (.inl (by rw [← ints_of q h3]; exact h1)), fun ns' p h4 h5 h6 => ?_⟩
        rw [up_uniq (h4.trans (sortI_perm _).symm) h5 (sortI_up _)]
        refine po _ _ (upd_new h6) ⟨[p], .lst upd_same ?_ (fun z => nomatch z), fun a m => by rw [List.mem_singleton.mp m]; exact fr_none h6⟩
        exact RpL.tr (O := O) (by rw [lfL_all]; simp [lf]) (RpL.ints _)
    · exact po.elim
  · exact po.elim
def anyB (s : String) : List String → Option Bool
  | [] => some false
  | T :: r => match kitB s T with
    | some true => some true
    | some false => anyB s r
    | none => none
def fIsiN (Ts : List String) (d : D) : RD := match tyOf d with
  | some s => match anyB s Ts with
    | some b => b2 b
    | none => .no
  | none => .no
def eIsiN (Ts : List String) (m : Env → RD) : Env → RD := fun env => (m env).bind fun x => fIsiN Ts x.2
theorem anyB_kit {K : PySem.W.Frag} {s : String} : ∀ {Ts : List String} {b : Bool}, anyB s Ts = some b → PySem.W.kitAny K (.type s) (Ts.map Value.type) = some b
  | [], b, h => by cases h; exact kitAny_nil
  | T :: r, b, h => by
    rw [anyB] at h
    split at h
    · rename_i q; cases h; exact kitAny_cons (kit_ty q) (fun z => nomatch z) (fun _ => rfl)
    · rename_i q; exact kitAny_cons (kit_ty q) (fun _ => anyB_kit h) (fun z => nomatch z)
    · cases h
theorem se_isi2 {e : Expr} {x y : Str} {p p2 p3 p4 pos : Pos} {k : Nat} {T U : String} {R : List Nat} {m : Env → RD} (hK : t.K.K = X.K) (hgi : Gl X "isinstance") (hmi : X.mg "isinstance" = none) (hg : Gl X x) (hm : X.mg x = none) (hv : bootBuiltins x = some (.type T))
    (hg' : Gl X y) (hm' : X.mg y = none) (hv' : bootBuiltins y = some (.type U)) (he : PE X e (eP t R m))
    (hn : x ≠ "__name__" := by decide) (hdb : (x == ("__debug__" : Str)) = false := by decide) (hn' : y ≠ "__name__" := by decide) (hdb' : (y == ("__debug__" : Str)) = false := by decide)
    (h1 : starEach [e, .Tuple [.Name x p2, .Name y p3] k p4] X.env = (false, eval e X.env) :: starEach [.Tuple [.Name x p2, .Name y p3] k p4] X.env := by rfl)
    (h2 : starEach [.Tuple [.Name x p2, .Name y p3] k p4] X.env = (false, eval (.Tuple [.Name x p2, .Name y p3] k p4) X.env) :: starEach [] X.env := by rfl)
    (h3 : (backTo pos (starEach [.Tuple [.Name x p2, .Name y p3] k p4] X.env)).any (·.1) = false := by rfl) : PE X (.Call (.Name "isinstance" p) [e, .Tuple [.Name x p2, .Name y p3] k p4] [] pos) (eP t R (eIsiN [T, U] m)) := by
  refine (pe_callB call_isiT hgi hmi (by decide +kernel) (pa_cons he (pa_cons (pe_tup (pa_cons (pe_bltn (v := .ty T) hg hm hv rfl hn hdb) (pa_cons (pe_bltn (v := .ty U) hg' hm' hv' rfl hn' hdb') pa_nil))) pa_nil h2) h1) (by decide) (by decide) h1 h3).imp fun σ H Q ⟨B, O, ow, env, re, po⟩ => ⟨B, O, ow, env, re, Post.bind1 po fun fr d v H1 _ s1 rv po1 => ?_⟩
  have r := rv.rp re.odx (O' := OwX O R ow) fun _ z => z
  unfold fIsiN at po1
  cases q : tyOf d with
  | none => simp only [q] at po1; exact False.elim po1
  | some s =>
    simp only [q] at po1
    cases q2 : anyB s [T, U] with
    | none => simp only [q2] at po1; exact False.elim po1
    | some b =>
      simp only [q2] at po1
      refine ⟨Nat.le_trans (show 2 ≤ 16777216 by decide) (by rw [sizeLine_eq]; exact Nat.le_refl _), fun l hl => ?_⟩
      have s2 := upd_new (T := t.K.T) (o := .tup [.ty T, .ty U]) hl
      exact ⟨v, l, _, .type s, [.type T, .type U], b, rfl, upd_same, .cons (.ty T) (.cons (.ty U) .nil), by rw [← hK]; exact tyX_of (r.same s2) q, anyB_kit q2, post_b (Post.same s2 po1)⟩
/-- within a comprehension nothing is raised -/
theorem passL {P : Program} {w : World} : Passes (L2.CX P w) X (fun _ _ _ => False) := fun _ _ _ _ _ _ _ h => by
  obtain ⟨_, _, _, _, _, h⟩ := h
  exact h.2.2.2.2.2.2.2.elim
/-- a def of which nothing is promised -/
theorem fn_no {P : Program} {w : World} {K : KT} {mg : Str → Option Value} {base : Heap} {CX : CXT} {k n : Nat} {f : Addr} {fd : FuncData} {ps : List Str} : FnOk P w K mg base CX k f fd ps (spP K mg n (fun _ => .no)) :=
  ⟨fun _ _ _ _ ⟨_, _, _, _, _, _, z⟩ => z.elim, fun _ _ _ _ _ _ _ _ _ _ _ _ _ ⟨_, _, _, _, _, _, z⟩ => z.elim⟩
theorem op_isB : OpR X (compareOp .Is) (fun x y H Q => ∃ a b, x = .bl a ∧ y = .bl b ∧ Q (.bl (decide (a = b))) H) := by
  intro pins s σ H x y v u Q I rx ry h
  obtain ⟨a, b, rfl, rfl, q⟩ := h
  cases rx
  cases ry
  exact wpAny_of_eq (by cases a <;> cases b <;> rfl : compareOp .Is (.bool a) (.bool b) = pure (.bool (decide (a = b)))) (fin_bl I q rfl)
theorem op_isnotB : OpR X (compareOp .IsNot) (fun x y H Q => ∃ a b, x = .bl a ∧ y = .bl b ∧ Q (.bl (!decide (a = b))) H) := by
  intro pins s σ H x y v u Q I rx ry h
  obtain ⟨a, b, rfl, rfl, q⟩ := h
  cases rx
  cases ry
  exact wpAny_of_eq (by cases a <;> cases b <;> rfl : compareOp .IsNot (.bool a) (.bool b) = pure (.bool (!decide (a = b)))) (fin_bl I q rfl)
def gIsB (x y : D) : RD := match x, y with
  | .bl a, .bl b => b2 (decide (a = b))
  | _, _ => .no
def gIsNB (x y : D) : RD := match x, y with
  | .bl a, .bl b => b2 (!decide (a = b))
  | _, _ => .no
theorem ok_isB : GOk2 t (fun x y H Q => ∃ a b, x = .bl a ∧ y = .bl b ∧ Q (.bl (decide (a = b))) H) gIsB := fun H O x y dx dy Q hO r1 r2 po => by
  unfold gIsB at po
  split at po
  · cases r1; cases r2; exact ⟨_, _, rfl, rfl, post_b po⟩
  · exact po.elim
theorem ok_isnotB : GOk2 t (fun x y H Q => ∃ a b, x = .bl a ∧ y = .bl b ∧ Q (.bl (!decide (a = b))) H) gIsNB := fun H O x y dx dy Q hO r1 r2 po => by
  unfold gIsNB at po
  split at po
  · cases r1; cases r2; exact ⟨_, _, rfl, rfl, post_b po⟩
  · exact po.elim
end
end S

/-! dicts whose keys are ints and texts -/
namespace S
open PySem PySem.Spec PyProof.Rows L2
def lfK (kvs : List (Key × D)) : Bool := kvs.all fun p => lf p.2
def keyOf : D → Option Key
  | .int i => some (.inl i)
  | .str s => some (.inr s)
  | _ => none
def putD (kvs : List (Key × D)) (k : Key) (d : D) : List (Key × D) :=
  if (kvs.any fun p => decide (p.1 = k)) = true then kvs.map (fun p => if p.1 = k then (p.1, d) else p) else kvs ++ [(k, d)]
def eDct0 : Env → RD := fun _ => .ok (true, .dct [])
def mStoreU (i : Nat) (mi mv : Env → RD) : Env → Out := fun env => match env[i]? with
  | some (some (true, .dct kvs)) => mOf (mv env) fun _ d => mOf (mi env) fun _ k => match keyOf k with
    | some k => if lf d = true ∧ lfK kvs = true ∧ kvs.length < sizeLine then .nx (env.set i (some (true, .dct (putD kvs k d)))) else .no
    | none => .no
  | _ => mStore i mi mv env
section
variable {K : PySem.W.Frag} {H : Hp} {O : Addr → Prop}
theorem RpK.len : ∀ {kvs : List (Key × V)} {ds : List (Key × D)}, RpK K H O kvs ds → kvs.length = ds.length
  | _, _, .nil => rfl
  | _, _, .cons _ r => congrArg (· + 1) r.len
theorem RpK.anyK {k : Key} : ∀ {kvs : List (Key × V)} {ds : List (Key × D)}, RpK K H O kvs ds → (kvs.any fun p => decide (p.1 = k)) = ds.any fun p => decide (p.1 = k)
  | _, _, .nil => rfl
  | _, _, .cons _ r => by simp only [List.any_cons]; rw [r.anyK]
theorem RpK.mapK {k : Key} {v : V} {d : D} (h : Rp K H O v d) : ∀ {kvs : List (Key × V)} {ds : List (Key × D)}, RpK K H O kvs ds → RpK K H O (kvs.map fun p => if p.1 = k then (p.1, v) else p) (ds.map fun p => if p.1 = k then (p.1, d) else p)
  | _, _, .nil => .nil
  | _, _, .cons (k := k') r rs => by
    simp only [List.map_cons]
    by_cases e : k' = k
    · simp only [e, if_true]; exact .cons h (RpK.mapK h rs)
    · simp only [e, if_false]; exact .cons r (RpK.mapK h rs)
theorem RpK.snoc {k : Key} {v : V} {d : D} (h : Rp K H O v d) : ∀ {kvs : List (Key × V)} {ds : List (Key × D)}, RpK K H O kvs ds → RpK K H O (kvs ++ [(k, v)]) (ds ++ [(k, d)])
  | _, _, .nil => .cons h .nil
  | _, _, .cons r rs => .cons r (RpK.snoc h rs)
theorem RpK.put {k : Key} {v : V} {d : D} (h : Rp K H O v d) {kvs : List (Key × V)} {ds : List (Key × D)} (r : RpK K H O kvs ds) : RpK K H O (putK kvs k v) (putD ds k d) := by
  unfold putK putD
  rw [r.anyK]
  split
  · exact RpK.mapK h r
  · exact RpK.snoc h r
theorem RpK.trL : ∀ {kvs : List (Key × V)} {ds : List (Key × D)}, lfK ds = true → RpK K H O kvs ds → TrK K H [] kvs ds
  | _, _, _, .nil => .nil
  | _, _, h, .cons r rs => by
    simp only [lfK, List.all_cons, Bool.and_eq_true] at h
    exact TrK.cons (F := []) (G := []) (r.tr h.1) (RpK.trL h.2 rs) (fun _ z => nomatch z)
theorem lfK_put {kvs : List (Key × D)} {k : Key} {d : D} (h : lfK kvs = true) (hd : lf d = true) : lfK (putD kvs k d) = true := by
  unfold putD
  split
  · unfold lfK at h ⊢
    rw [List.all_eq_true] at h ⊢
    intro p m
    obtain ⟨q, mq, rfl⟩ := List.mem_map.mp m
    by_cases e : q.1 = k
    · simp [e, hd]
    · simp only [e, if_false]; exact h q mq
  · unfold lfK at h ⊢
    rw [List.all_append, h]
    simp [hd]
end
section
variable {K : KT} {B H H1 : Hp} {O : Addr → Prop} {ow : Nat → List Addr} {σ : L2.St} {env : Env} {i : Nat} {ds : List (Key × D)}
theorem RE.dct (re : RE K B O ow σ H env) (e : env[i]? = some (some (true, .dct ds))) : ∃ a xs F, σ[i]? = some (some (.ref a)) ∧ ow i = a :: F ∧ H a = some (.dK xs) ∧ TrK K H F xs ds ∧ a ∉ F ∧ i < env.length := by
  obtain ⟨v, h1, h2⟩ := re.tr i _ e
  generalize ho : ow i = G at h2
  cases h2 with
  | @dct F a xs _ h hs hn => exact ⟨a, xs, F, h1, rfl, h, hs, hn, (List.getElem?_eq_some_iff.mp e).1⟩
theorem RE.putDct {a : Addr} {xs ys : List (Key × V)} {es : List (Key × D)} {F : List Addr} {O' : Addr → Prop} (re : RE K B O ow σ H env) (s : Sm K.T H H1) (hv : σ[i]? = some (some (.ref a))) (hw : ow i = a :: F) (ha : H a = some (.dK xs)) (hi : i < env.length)
    (r : RpK K H1 O' ys es) (hl : lfK es = true) : ∃ ow', RE K B O ow' σ (upd H1 a (.dK ys)) (env.set i (some (true, .dct es))) := by
  have T2 : TrK K (upd H1 a (.dK ys)) [] ys es := (r.trL hl).carry (fun b m => nomatch m) (firm_upd (Sm.refl (T := K.T) H1) (s.keep _ _ nt_dK ha) trivial)
  have tr : Tr K (upd H1 a (.dK ys)) [a] (.ref a) (.dct es) := .dct upd_same T2 (fun z => nomatch z)
  refine ⟨_, re.mutate (i := i) (d := .dct es) hv hi (fun b u n nt e => ?_) (tabs_upd (s.keep _ _ nt_dK ha) trivial (s.tabs re.tabs)) tr fun b m => ?_⟩
  · rw [upd_ne (fun z => n (by rw [hw, z]; exact List.mem_cons_self))]; exact s.keep _ _ nt e
  · exact .inl (by rw [hw, List.mem_singleton.mp m]; exact List.mem_cons_self)
end
section
variable {X : Cx} {t : Ctx} {R R' : List Nat} {m m' : Env → RD} {i : Nat} {pos : Pos}
theorem se_dct0 : PE X (.Dict [] [] pos) (eP t [] eDct0) :=
  pe_dnewK.imp fun σ H Q ⟨B, O, ow, env, re, po⟩ => fun p hp => po _ _ (upd_new hp) ⟨[p], .dct upd_same .nil (fun z => nomatch z), fun a m => by rw [List.mem_singleton.mp m]; exact fr_none hp⟩
theorem set_U (hu : X.A.units + 64 < cLine) : PSet X (fun o i v H Q => rSetL o i v H Q ∨ rSetD o i v H Q) := by
  intro pins s σ H o i v ov iv u Q I ro ri rv h
  rcases h with h | h
  · exact set_list pins s σ H o i v ov iv u Q I ro ri rv h
  · exact set_dict (by omega) pins s σ H o i v ov iv u Q I ro ri rv h
theorem key_v {K : PySem.W.Frag} {H : Hp} {O : Addr → Prop} {v : V} {d : D} {k : Key} (r : Rp K H O v d) (h : keyOf d = some k) : v = kV k := by
  cases d with
  | int i => cases h; cases r; rfl
  | str i => cases h; cases r; rfl
  | _ => cases h
theorem ss_storeU (hu : X.A.units + 64 < cLine) {e k : Expr} {x : Str} {p p2 : Pos} (hx : PE X (.Name x p) (tVar i)) (hk : PE X k (eP t R' m')) (he : PE X e (eP t R m))
    (ha : ∀ v, assign (.Subscript (.Name x p) k p2) X.env v = (do
      let ov ← holding [v] (eval (.Name x p) X.env)
      let iv ← holding [v, ov] (eval k X.env)
      standAt p2
      holding [v, ov, iv] (setItem ov iv v)
      release [v, ov, iv] []) := by intro _; rfl)
    (hs : swapsWithSole [.Subscript (.Name x p) k p2] e pos.line X.env = pure false := by rfl) (hw : swappedStores [.Subscript (.Name x p) k p2] e X.env = pure none := by rfl)
    (h1 : (assignEach [.Subscript (.Name x p) k p2] X.env).map (·.2) = [assign (.Subscript (.Name x p) k p2) X.env] := by rfl) : PS X (.Assign [.Subscript (.Name x p) k p2] e pos) (sP t (mStoreU i m' m)) := by
  refine (ps_asg he (pg_sub hx hk (set_U hu) ha) hs hw h1).imp fun D σ H ⟨B, O, ow, env, re, o⟩ => ?_
  unfold mStoreU at o
  split at o
  · rename_i ds e
    refine ⟨B, O, ow, env, re, mOf_read re.ext o fun fr d v H1 s rv o1 => ?_⟩
    have re1 := re.same s
    obtain ⟨a, xs, F, hv, hw', ha', T, hn, hi⟩ := re1.dct e
    refine ⟨.ref a, hv, B, O, ow, env, re1, mOf_read re1.ext o1 fun fr2 d2 v2 H2 s2 rv2 o2 => ?_⟩
    have r2 := rv2.rp re1.odx (O' := OwX O R' ow) fun _ z => z
    cases hk : keyOf d2 with
    | none => simp only [hk] at o2; exact o2.elim
    | some k =>
      simp only [hk] at o2
      cases key_v r2 hk
      by_cases hl : lf d = true ∧ lfK ds = true ∧ ds.length < sizeLine
      · simp only [if_pos hl] at o2
        have rd : Rp t.K H2 O v d := (((rv.rp re.odx (O' := OwX O R ow) fun _ z => z).same s2)).free hl.1
        have rk : RpK t.K H1 O xs ds := T.rp fun b m z => re1.notO (i := i) (by rw [hw']; exact List.mem_cons_of_mem _ m) z
        obtain ⟨ow', re'⟩ := re1.putDct s2 hv hw' ha' hi (RpK.put (k := k) rd (rk.same s2)) (lfK_put hl.2.1 hl.1)
        exact .inr ⟨a, _, rfl, DPut.k (s2.keep _ _ nt_dK ha') (by rw [rk.len]; exact hl.2.2), o2 ow' σ _ re'⟩
      · simp only [if_neg hl] at o2; exact o2.elim
  · unfold mStore at o
    split at o
    case h_2 => exact o.elim
    rename_i ds e
    refine ⟨B, O, ow, env, re, mOf_read re.ext o fun fr d v H1 s rv o1 => ?_⟩
    have re1 := re.same s
    obtain ⟨a, xs, F, hv, hw', ha', T, hn, hi⟩ := re1.lst e
    refine ⟨.ref a, hv, B, O, ow, env, re1, mOf_read re1.ext o1 fun fr2 d2 v2 H2 s2 rv2 o2 => ?_⟩
    have r2 := rv2.rp re1.odx (O' := OwX O R' ow) fun _ z => z
    cases r2 with
    | int k =>
      simp only at o2
      by_cases hl : lf d = true ∧ lfL ds = true
      · simp only [if_pos hl] at o2
        cases hp : ixN ds.length k with
        | none => simp only [hp] at o2; exact o2.elim
        | some p =>
          simp only [hp] at o2
          have rd : Rp t.K H2 O v d := (((rv.rp re.odx (O' := OwX O R ow) fun _ z => z).same s2)).free hl.1
          obtain ⟨ow', re'⟩ := re1.put s2 hv hw' ha' hi (((re1.items hw' T).same s2).set rd p) (lfL_set hl.2 hl.1 p)
          exact .inl ⟨a, xs, k, p, rfl, rfl, s2.keep _ _ nt_lst ha', by rw [T.len]; exact hp, o2 ow' σ _ re'⟩
      · simp only [if_neg hl] at o2; exact o2.elim
    | _ => exact o2.elim
def kD : Key → D
  | .inl i => .int i
  | .inr s => .str s
def fListU (ds : List D) : RD := match ds with
  | [.dct kvs] => .ok (true, .lst (kvs.map fun p => kD p.1))
  | _ => fList ds
theorem keys_rp {K : PySem.W.Frag} {H : Hp} {O : Addr → Prop} : ∀ {kvs : List (Key × V)} {ds : List (Key × D)} {H' : Hp} {O' : Addr → Prop}, RpK K H O kvs ds → TrL K H' [] (kvs.map fun p => kV p.1) (ds.map fun p => kD p.1)
  | _, _, _, _, .nil => .nil
  | _, _, H', O', .cons (k := k) r rs => by
    refine TrL.cons (F := []) (G := []) ?_ (keys_rp (O' := O') rs) (fun _ z => nomatch z)
    cases k with
    | inl i => exact .int i
    | inr s => exact .str s
theorem call_listU (hc : X.calm = true) : CallR X (.type "list") (fun xs H Q => rListS X.K xs H Q ∨ rListD xs H Q) := by
  intro pins s σ H xs us Q I r h
  rcases h with h | h
  · exact call_list_of pins s σ H xs us Q I r h
  · exact call_list_dK hc pins s σ H xs us Q I r h
theorem ok_listU : GOkN t (fun xs H Q => rListS t.K xs H Q ∨ rListD xs H Q) fListU := by
  intro H O xs ds Q hO rs po
  unfold fListU at po
  split at po
  · obtain ⟨x, rfl, r1⟩ := rpl1 rs
    cases r1 with
    | dct h1 h2 h3 =>
      exact .inr ⟨_, _, rfl, h1, fun q hq => po _ _ (upd_new hq) ⟨[q], .lst upd_same (keys_rp (O' := O) h3) (fun z => nomatch z), fun a m => by rw [List.mem_singleton.mp m]; exact fr_none hq⟩⟩
  · exact .inl (ok_list H O xs _ Q hO rs po)
end
end S

/-! count and index of lists of plain things; exceptions that are handled -/
namespace S
open PySem PySem.Spec PyProof.Rows L2
def gCount (x y : D) : RD := match x with
  | .lst ds => if flat y = true ∧ ds.all flat = true then i2 (ds.countP fun z => eqv z y : Nat) else .no
  | _ => .no
def gIndex (x y : D) : RD := match x with
  | .lst ds => if flat y = true ∧ ds.all flat = true then (match ds.findIdx? fun z => eqv z y with
    | some j => i2 (j : Nat)
    | none => .no) else .no
  | _ => .no
def eLm (g : D → D → RD) (a b : Env → RD) : Env → RD := fun env => (a env).bind fun x => match x.2 with
  | .lst _ => (b env).bind fun y => g x.2 y.2
  | _ => .no
def rCntV (K : PySem.W.Frag) : V → List V → Hp → VK → Prop := fun x xs H Q => ∃ (a : Addr) (ys : List V) (y : V), x = V.ref a ∧ xs = [y] ∧ SqL K H a ys ∧ flatV y = true ∧ ys.all flatV = true ∧ Q (.int (ys.countP fun z => eqV z y : Nat)) H
theorem countP_vals {y : V} : ∀ {ys : List V} {its : List Value}, Vals ys its → ys.all flatV = true → its.countP (eqU y) = ys.countP fun z => eqV z y
  | _, _, .nil, _ => rfl
  | z :: ys, u :: its, .cons r rs, f => by
    have f' := Bool.and_eq_true_iff.mp (show (flatV z && ys.all flatV) = true from by simpa using f)
    rw [List.countP_cons, List.countP_cons, countP_vals rs f'.2, eqU_of r f'.1]
theorem mt_cntV {X : Cx} : MtR X "list.count" (rCntV X.K) := fun pins s σ H x xs v us Q I rx rxs h => by
  obtain ⟨a, ys, y, e1, e2, hs, fy, fys, q⟩ := h
  subst e1
  subst e2
  cases rx
  obtain ⟨uy, e3, ry⟩ := rxs.one
  subst e3
  obtain ⟨its, rv, ⟨⟨cl, dc, dt, slt⟩, m, hob, hcl, hdc, hdt⟩, hln⟩ := I.list hs
  dsimp only at hcl hdt
  subst hcl
  subst hdt
  refine call_meets PySem.F.slot_list_count ⟨_, hob, rfl⟩ PySem.F.entry_list_count (PySem.F.args_list_count_2 _ _) (SeqAt.list_countAt a its.toArray m dc slt uy (eqU y)) ⟨hob, fun w hw => mem_eqAt ry fy rv fys w (by simpa using hw), ?_⟩
  have ec : its.toArray.toList.countP (eqU y) = ys.countP fun z => eqV z y := countP_vals rv fys
  rw [ec]
  exact ⟨.int (ys.countP fun z => eqV z y : Nat), H, I.tok _, ⟨_, rfl⟩, q⟩
section
variable {X : Cx} {t : Ctx} {a b : Expr} {Ra Rb : List Nat} {ma mb : Env → RD} {apos pos : Pos}
theorem countP_rp {K : PySem.W.Frag} {H : Hp} {O : Addr → Prop} {v : V} {d : D} (r : Rp K H O v d) (h : flat d = true) : ∀ {vs : List V} {ds : List D}, RpL K H O vs ds → ds.all flat = true → (vs.countP fun z => eqV z v) = ds.countP fun z => eqv z d
  | _, _, .nil, _ => rfl
  | _, _, .cons (d := e) (ds := ds) q qs, f => by
    have f' := Bool.and_eq_true_iff.mp (show (flat e && ds.all flat) = true from by simpa using f)
    rw [List.countP_cons, List.countP_cons, countP_rp r h qs f'.2, eqv_flat q r f'.1 h]
theorem lm_read {id : String} {r : V → List V → Hp → VK → Prop} {g : D → D → RD} (hK : t.K.K = X.K)
    (hg : ∀ (H : Hp) (O : Addr → Prop) (x y : V) (ds : List D) (dy : D) (Q : VK), Rp t.K H O x (.lst ds) → Rp t.K H O y dy → Post t H O (g (.lst ds) dy) Q → r x [y] H Q) {σ : L2.St} {H : Hp} {Q : VK} (h : eP t (Ra ++ Rb) (eLm g ma mb) σ H Q) :
    tBM X.K "list" r (eP t Ra ma) (tCons (eP t Rb mb) tNil) σ H Q := by
  obtain ⟨B, O, ow, env, re, po⟩ := h
  refine ⟨B, O, ow, env, re, Post.bind1 po fun fr d v H1 _ s1 rv po1 => ?_⟩
  have re1 := re.same s1
  have r1 := rv.rp re.odx (O' := OwX O (Ra ++ Rb) ow) (fun _ z => owx_l z)
  cases d with
  | lst ds =>
    have hty : tyV X.K "list" v H1 := by
      cases r1 with
      | lst h1 _ _ => exact tyL h1
    refine ⟨hty, B, O, ow, env, re1, Post.bind1 po1 fun fr2 d2 v2 H2 _ s2 rv2 po2 => ?_⟩
    exact hg H2 _ v v2 ds d2 Q (r1.same s2) (rv2.rp re1.odx (O' := OwX O (Ra ++ Rb) ow) (fun _ z => owx_r z)) po2
  | _ => exact False.elim po1
theorem se_count (hK : t.K.K = X.K) (ha : PE X a (eP t Ra ma)) (hb : PE X b (eP t Rb mb)) (hbase : attributeBase a "count" X.env (eval a X.env) = eval a X.env := by rfl)
    (hfew : ((backTo pos (starEach [b] X.env)).all (fun x => !x.1) && (backToKw pos (keywordEach [] X.env)).all (fun x => x.1.isSome) && decide (([b] : List Expr).length + ([] : List Keyword).length + (if ([] : List Keyword).isEmpty then 0 else 1) < 30)) = true := by rfl)
    (hline : (apos.endLine == pos.line) = true := by rfl) (hs : starEach [b] X.env = (false, eval b X.env) :: starEach [] X.env := by rfl) (hplain : (backTo pos (starEach [] X.env)).any (·.1) = false := by rfl) :
    PE X (.Call (.Attribute a "count" apos) [b] [] pos) (eP t (Ra ++ Rb) (eLm gCount ma mb)) :=
  (pe_bm PySem.F.plainAttrs_list PySem.F.slot_list_count PySem.F.type_list_count mt_cntV ha (pa_cons hb pa_nil hs) hbase hfew hline hs hplain).imp fun σ H Q h => lm_read (id := "list.count") hK (fun H O x y ds dy Q rx ry po => by
    unfold gCount at po
    by_cases hl : flat dy = true ∧ ds.all flat = true
    · simp only [if_pos hl] at po
      cases rx with
      | lst h1 h2 h3 => exact ⟨_, _, y, rfl, rfl, SqL.of h1, flat_v ry hl.1, flat_all h3 hl.2, by rw [countP_rp ry hl.1 h3 hl.2]; exact post_i po⟩
    · simp only [if_neg hl] at po; exact po.elim) h
theorem find_rp {K : PySem.W.Frag} {H : Hp} {O : Addr → Prop} {v : V} {d : D} (r : Rp K H O v d) (h : flat d = true) : ∀ {vs : List V} {ds : List D} {j : Nat}, RpL K H O vs ds → ds.all flat = true → (ds.findIdx? fun z => eqv z d) = some j →
    (∃ z, vs[j]? = some z ∧ eqV z v = true) ∧ ∀ (m : Nat) (z : V), m < j → vs[m]? = some z → eqV z v = false
  | _, _, j, .nil, _, e => by simp at e
  | v' :: vs, e :: ds, j, .cons q qs, f, he => by
    have f' := Bool.and_eq_true_iff.mp (show (flat e && ds.all flat) = true from by simpa using f)
    rw [List.findIdx?_cons] at he
    cases hq : eqv e d with
    | true =>
      simp only [hq, if_true] at he
      cases he
      refine ⟨⟨v', rfl, by rw [eqv_flat q r f'.1 h]; exact hq⟩, fun m z hm => by omega⟩
    | false =>
      simp only [hq] at he
      cases hr : ds.findIdx? fun z => eqv z d with
      | none => rw [hr] at he; simp at he
      | some i =>
        rw [hr] at he
        simp at he
        subst he
        obtain ⟨h1, h2⟩ := find_rp r h qs f'.2 hr
        refine ⟨by simpa using h1, fun m z hm hz => ?_⟩
        cases m with
        | zero => simp at hz; subst hz; rw [eqv_flat q r f'.1 h]; exact hq
        | succ m => exact h2 m z (by omega) (by simpa using hz)
theorem se_index (hK : t.K.K = X.K) (ha : PE X a (eP t Ra ma)) (hb : PE X b (eP t Rb mb)) (hbase : attributeBase a "index" X.env (eval a X.env) = eval a X.env := by rfl)
    (hfew : ((backTo pos (starEach [b] X.env)).all (fun x => !x.1) && (backToKw pos (keywordEach [] X.env)).all (fun x => x.1.isSome) && decide (([b] : List Expr).length + ([] : List Keyword).length + (if ([] : List Keyword).isEmpty then 0 else 1) < 30)) = true := by rfl)
    (hline : (apos.endLine == pos.line) = true := by rfl) (hs : starEach [b] X.env = (false, eval b X.env) :: starEach [] X.env := by rfl) (hplain : (backTo pos (starEach [] X.env)).any (·.1) = false := by rfl) :
    PE X (.Call (.Attribute a "index" apos) [b] [] pos) (eP t (Ra ++ Rb) (eLm gIndex ma mb)) :=
  (pe_bm PySem.F.plainAttrs_list PySem.F.slot_list_index PySem.F.type_list_index mt_index ha (pa_cons hb pa_nil hs) hbase hfew hline hs hplain).imp fun σ H Q h => lm_read (id := "list.index") hK (fun H O x y ds dy Q rx ry po => by
    unfold gIndex at po
    by_cases hl : flat dy = true ∧ ds.all flat = true
    · simp only [if_pos hl] at po
      cases hf : ds.findIdx? fun z => eqv z dy with
      | none => simp only [hf] at po; exact po.elim
      | some j =>
        simp only [hf] at po
        cases rx with
        | lst h1 h2 h3 =>
          obtain ⟨⟨z, q1, q2⟩, q3⟩ := find_rp ry hl.1 h3 hl.2 hf
          exact ⟨_, _, y, j, z, rfl, rfl, SqL.of h1, flat_v ry hl.1, flat_all h3 hl.2, q1, q2, q3, post_i po⟩
    · simp only [if_neg hl] at po; exact po.elim) h
end
end S

/-! exceptions that are handled: isinstance, defs that are handed one -/
namespace S
open PySem PySem.Spec PyProof.Rows L2
section
variable {X : Cx} {t : Ctx} {a D : Addr} {oe : Obj} {dx : Option Addr}
/-- isinstance(e, c), isinstance(e, (c, ..)): e's object is kept in view, dx its dict -/
def rIsP (K : PySem.W.Frag) (D a : Addr) (dx : Option Addr) : List V → Hp → VK → Prop := fun xs H Q => (∀ dd, dx = some dd → ∃ u, H dd = some u) ∧ ((∃ (c : V) (cv : Value) (b : Bool), xs = [.ref a, c] ∧ (∀ u, RelV c u → u = cv) ∧ PySem.W.kitOne K (.ref D) cv = some b ∧ Q (.bl b) H) ∨
  ∃ (p : Addr) (vs : List V) (cs : List Value) (b : Bool), xs = [.ref a, .ref p] ∧ H p = some (.tup vs) ∧ (∀ us, Vals vs us → us = cs) ∧ PySem.W.kitAny K (.ref D) cs = some b ∧ Q (.bl b) H)
theorem inst_pin {pins : List (Addr × Obj)} {σ : L2.St} {H : Hp} {s : Shared} (I : Inv X pins σ H s) (hz : Zc (.ref D) dx oe) (hf : ∃ vs, oe.data = .fields vs) (hp : (a, oe) ∈ X.pn) (hx : ∀ dd, dx = some dd → ∃ u, H dd = some u) : ∃ od, PySem.W.InstAt s.heap a oe D od := by
  obtain ⟨g, _⟩ := I.pin (a, oe) (List.mem_append_left _ hp)
  obtain ⟨w, hw⟩ := hf
  obtain ⟨c1, c2, c3, c4⟩ := oe
  obtain ⟨z1, z2⟩ := hz
  simp only at z1 z2 hw
  subst z1 z2 hw
  cases c2 with
  | none => exact ⟨none, g, rfl, rfl, trivial⟩
  | some dd =>
    obtain ⟨u, hu⟩ := hx dd rfl
    obtain ⟨o, ho⟩ := objOk_get (I.hok dd u hu)
    exact ⟨some o, g, rfl, rfl, ho⟩
theorem call_isP (C : ExcC X.K D) (hz : Zc (.ref D) dx oe) (hf : ∃ vs, oe.data = .fields vs) (hp : (a, oe) ∈ X.pn) : CallR X (.builtin "isinstance") (rIsP X.K D a dx) := fun pins s σ H xs us Q I r h => by
  obtain ⟨hx, h⟩ := h
  have hcl : (PySem.W.clsIn X.K D).isSome = true := by
    obtain ⟨cd, hc, _⟩ := PySem.W.any_some C.hd
    rw [hc]; rfl
  rcases h with ⟨c, cv, b, rfl, h1, h2, q⟩ | ⟨p, vs, cs, b, rfl, h1, h2, h3, q⟩
  · match us, r with
    | [u1, u2], .cons r1 (.cons r2 .nil) =>
      cases r1
      cases h1 _ r2
      obtain ⟨od, J⟩ := inst_pin I hz hf hp hx
      exact PySem.W.kia_one (PySem.W.kitx_exc (K := X.K) (x := a) (C := D) (ox := oe) (od := od) hcl C.hg C.hk C.hs C.ha C.hn C.ht C.hm) I.kIn J h2 (fun z => nomatch z) fun tk => ⟨.bl b, H, I.kept (t' := tk) fun _ _ z => z, rfl, q⟩
  · match us, r with
    | [u1, u2], .cons r1 (.cons r2 .nil) =>
      cases r1
      cases r2
      obtain ⟨hl, its, rv, ⟨c1, c2, c3, c4⟩, hg, hg2, n, hg3⟩ := I.hok p _ h1
      have e := h2 _ rv
      simp only at hg2 hg3
      subst e hg2 hg3
      obtain ⟨od, J⟩ := inst_pin I hz hf hp hx
      exact PySem.W.kia_tup (tp := p) (PySem.W.kitx_exc (K := X.K) (x := a) (C := D) (ox := oe) (od := od) hcl C.hg C.hk C.hs C.ha C.hn C.ht C.hm) I.kIn J hg h3 (fun z => nomatch z) fun tk => ⟨.bl b, H, I.kept (t' := tk) fun _ _ z => z, rfl, q⟩
/-- slot i holds the exception at a; isinstance says b -/
def eIsP (i : Nat) (a : Addr) (dx : Option Addr) (b : Bool) : Env → RD := fun env => match env[i]? with
  | some (some (_, .raw a' dx' _)) => if a' = a ∧ dx' = dx then .ok (false, .bl b) else .no
  | _ => .no
theorem slot_raw {K : KT} {B H : Hp} {O : Addr → Prop} {ow : Nat → List Addr} {σ : L2.St} {env : Env} {i : Nat} {fl : Bool} {v : V} (re : RE K B O ow σ H env) (e : env[i]? = some (some (fl, .raw a dx v))) : σ[i]? = some (some (.ref a)) ∧ ∀ dd, dx = some dd → H dd = some (.xd [("at", v)]) := by
  cases fl with
  | false =>
    obtain ⟨u, h1, h2⟩ := re.fz i _ e
    cases h2 with
    | raw h => exact ⟨h1, h⟩
  | true =>
    obtain ⟨u, h1, h2⟩ := re.tr i _ e
    generalize ow i = F at h2
    cases h2 with
    | raw h => exact ⟨h1, h⟩
theorem eIsP_read {i : Nat} {b : Bool} {σ : L2.St} {H : Hp} {Q : VK} (h : eP t [] (eIsP i a dx b) σ H Q) : σ[i]? = some (some (.ref a)) ∧ (∀ dd, dx = some dd → ∃ u, H dd = some u) ∧ ∀ H', Sm t.K.T H H' → Q (.bl b) H' := by
  obtain ⟨B, O, ow, env, re, po⟩ := h
  unfold eIsP at po
  split at po
  · rename_i fl a' dx' v e
    split at po
    · rename_i ea
      obtain ⟨e1, e2⟩ := ea
      subst e1 e2
      obtain ⟨h1, h2⟩ := slot_raw re e
      exact ⟨h1, fun dd z => ⟨_, h2 dd z⟩, fun H' s => po (.bl b) H' s (.bl b)⟩
    · exact po.elim
  · exact po.elim
theorem se_isP {i : Nat} {b : Bool} {e c : Str} {p p2 p3 pos : Pos} {A : Addr} (C : ExcC X.K D) (hz : Zc (.ref D) dx oe) (hf : ∃ vs, oe.data = .fields vs) (hp : (a, oe) ∈ X.pn) (hgi : Gl X "isinstance") (hmi : X.mg "isinstance" = none)
    (hv : PE X (.Name e p2) (tVar i)) (hgc : Gl X c) (hmc : X.mg c = some (.ref A)) (hdb : (c == ("__debug__" : Str)) = false) (hk : PySem.W.kitOne X.K (.ref D) (.ref A) = some b)
    (h1 : starEach [.Name e p2, .Name c p3] X.env = (false, eval (.Name e p2) X.env) :: starEach [.Name c p3] X.env := by rfl) (h2 : starEach [.Name c p3] X.env = (false, eval (.Name c p3) X.env) :: starEach [] X.env := by rfl)
    (h3 : (backTo pos (starEach [.Name c p3] X.env)).any (·.1) = false := by rfl) : PE X (.Call (.Name "isinstance" p) [.Name e p2, .Name c p3] [] pos) (eP t [] (eIsP i a dx b)) :=
  (pe_callB (call_isP C hz hf hp) hgi hmi (by decide +kernel) (pa_cons hv (pa_cons (pe_glob (v := .ref A) hgc hmc rfl (hd := hdb)) pa_nil h2) h1) (by decide) (by decide) h1 h3).imp fun σ H Q h => by
    obtain ⟨hs, hx, q⟩ := eIsP_read h
    exact ⟨_, hs, hx, .inl ⟨.ref A, .ref A, b, rfl, fun u r => r, hk, q H (Sm.refl H)⟩⟩
theorem se_isPt {i : Nat} {b : Bool} {e c : Str} {T : String} {p p2 p3 pos : Pos} (C : ExcC X.K D) (hz : Zc (.ref D) dx oe) (hf : ∃ vs, oe.data = .fields vs) (hp : (a, oe) ∈ X.pn) (hgi : Gl X "isinstance") (hmi : X.mg "isinstance" = none)
    (hv : PE X (.Name e p2) (tVar i)) (hgc : Gl X c) (hmc : X.mg c = none) (hb : bootBuiltins c = some (.type T)) (hk : PySem.W.kitOne X.K (.ref D) (.type T) = some b) (hn : c ≠ "__name__") (hdb : (c == ("__debug__" : Str)) = false)
    (h1 : starEach [.Name e p2, .Name c p3] X.env = (false, eval (.Name e p2) X.env) :: starEach [.Name c p3] X.env := by rfl) (h2 : starEach [.Name c p3] X.env = (false, eval (.Name c p3) X.env) :: starEach [] X.env := by rfl)
    (h3 : (backTo pos (starEach [.Name c p3] X.env)).any (·.1) = false := by rfl) : PE X (.Call (.Name "isinstance" p) [.Name e p2, .Name c p3] [] pos) (eP t [] (eIsP i a dx b)) :=
  (pe_callB (call_isP C hz hf hp) hgi hmi (by decide +kernel) (pa_cons hv (pa_cons (pe_bltn (v := .ty T) hgc hmc hb rfl hn hdb) pa_nil h2) h1) (by decide) (by decide) h1 h3).imp fun σ H Q h => by
    obtain ⟨hs, hx, q⟩ := eIsP_read h
    exact ⟨_, hs, hx, .inl ⟨.ty T, .type T, b, rfl, fun u r => r, hk, q H (Sm.refl H)⟩⟩
theorem se_isP2 {i : Nat} {b : Bool} {e c c2 : Str} {j : Nat} {p p2 p3 p4 p5 pos : Pos} {A A2 : Addr} (C : ExcC X.K D) (hz : Zc (.ref D) dx oe) (hf : ∃ vs, oe.data = .fields vs) (hp : (a, oe) ∈ X.pn) (hgi : Gl X "isinstance") (hmi : X.mg "isinstance" = none)
    (hv : PE X (.Name e p2) (tVar i)) (hgc : Gl X c) (hmc : X.mg c = some (.ref A)) (hdb : (c == ("__debug__" : Str)) = false) (hgc2 : Gl X c2) (hmc2 : X.mg c2 = some (.ref A2)) (hdb2 : (c2 == ("__debug__" : Str)) = false) (hk : PySem.W.kitAny X.K (.ref D) [.ref A, .ref A2] = some b)
    (h1 : starEach [.Name e p2, .Tuple [.Name c p3, .Name c2 p4] j p5] X.env = (false, eval (.Name e p2) X.env) :: starEach [.Tuple [.Name c p3, .Name c2 p4] j p5] X.env := by rfl)
    (h2 : starEach [.Tuple [.Name c p3, .Name c2 p4] j p5] X.env = (false, eval (.Tuple [.Name c p3, .Name c2 p4] j p5) X.env) :: starEach [] X.env := by rfl)
    (h3 : (backTo pos (starEach [.Tuple [.Name c p3, .Name c2 p4] j p5] X.env)).any (·.1) = false := by rfl) : PE X (.Call (.Name "isinstance" p) [.Name e p2, .Tuple [.Name c p3, .Name c2 p4] j p5] [] pos) (eP t [] (eIsP i a dx b)) :=
  (pe_callB (call_isP C hz hf hp) hgi hmi (by decide +kernel) (pa_cons hv (pa_cons (pe_tup (pa_cons (pe_glob (v := .ref A) hgc hmc rfl (hd := hdb)) (pa_cons (pe_glob (v := .ref A2) hgc2 hmc2 rfl (hd := hdb2)) pa_nil))) pa_nil h2) h1) (by decide) (by decide) h1 h3).imp fun σ H Q h => by
    obtain ⟨hs, hx, q⟩ := eIsP_read h
    refine ⟨_, hs, Nat.le_trans (show 2 ≤ 16777216 by decide) (by rw [sizeLine_eq]; exact Nat.le_refl _), fun l hl => ⟨fun dd z => let ⟨u, hu⟩ := hx dd z; ⟨u, upd_newS hl dd u hu⟩, .inr ⟨l, _, [.ref A, .ref A2], b, rfl, upd_same, fun us r => ?_, hk, q _ (upd_new hl)⟩⟩⟩
    match us, r with
    | [u1, u2], .cons r1 (.cons r2 .nil) =>
      cases r1
      cases r2
      rfl
end
/-! a def that is handed the exception that is handled -/
open L2H in
structure FnP (P : Program) (w : World) (K : KT) (mg : Str → Option Value) (base : Heap) (k : Nat) (f : Addr) (fd : FuncData) (ps : List Str) (Dc : Addr) (d : D) : Prop where
  len : ps.length = 1
  run : ∀ (A : Around) (outer : List PySem.Env) (s : Shared) (H : Hp) (args : Args) (a : Addr) (dx : Option Addr) (xv : V) (oe : Obj) (Q : VK), RoomH k A → PinOk outer H s (a, oe) → Zc (.ref Dc) dx oe → (∀ dd, dx = some dd → H dd = some (.xd [("at", xv)])) → (∃ vs, oe.data = .fields vs) → Env0 P w K mg base A outer s H → BindsTo s fd args (ps.zip [.ref a]) →
    LamX.Tabs K.T H → (∀ v H', Sm K.T H H' → Rp K H' Nob v d → Q v H') → codeAny (model P w) A (.call (.ref f) args) (CR C8.CX0 outer P w H s Q C8.E0) s
section
open L2H
variable {P : Program} {w : World} {K : KT} {mg : Str → Option Value} {base : Heap}
/-- its context -/
abbrev cxP (P : Program) (w : World) (K : PySem.W.Frag) (mg : Str → Option Value) (base : Heap) (N : List Str) (qual : Str) (scope : Scope) (f : Addr) (cd : Value) (A : Around) (outer : List PySem.Env) (s : Shared) (H : Hp) (p : Addr × Obj) : Cx :=
  cxH C8.CX0 P w K mg base N qual scope f cd A outer s H C8.E0 p
theorem fnP_ok {x qual : Str} {st : Stmt} {f : Addr} {fd : FuncData} {N : List Str} {p1 : Str} {k nN : Nat} {m : Addr → Option Addr → Env → Out} {Dc : Addr} {d : D} (F : Fun K x qual st f fd) (S : FnScope N [p1] (defScope st)) (eN : N.length = nN + 1)
    (hb : ∀ (cdv : Value) (A : Around) (outer : List PySem.Env) (s : Shared) (H : Hp) (a : Addr) (dx : Option Addr) (oe : Obj), RoomH k (A.deeper (envOfC qual (defScope st) s.heap.objs.size f cdv)) → Zc (.ref Dc) dx oe → (∃ vs, oe.data = .fields vs) →
      PSs (cxP P w K mg base N qual (defScope st) f cdv A outer s H (a, oe)) (defBody st) (sP ⟨K, mg, C8.E0⟩ (m a dx)))
    (hm : ∀ a dx xv, m a dx (some (false, .raw a dx xv) :: List.replicate nN none) = .rt false d) : FnP P w K mg base (k + 1) f fd [p1] Dc d := by
  obtain ⟨oc, od, kV, doc, pm, an, cdv, ct, osl, rfl, lk, hcd⟩ := F.ex
  refine ⟨rfl, fun A outer s H args a dx xv oe Q room pin hz hx hf e0 bind tabs q => ?_⟩
  have inK : K.K.In s.heap := e0.mod.kin.keeps fun z o e => (e0.bs z o e).1
  have nol : s.heap.NoLimit := e0.mod.nolimit.keeps fun z o e => (e0.bs z o e).1
  have kinds : ∀ y ∈ [p1].zip [Value.ref a], (defScope st).names.lookup y.1 = some .local ∨ ((defScope st).names.lookup y.1 = some .cell ∧ ((cellsFrom (s.heap.objs.size + 1) (defScope st).names []).lookup y.1).isSome = true) := fun y hy => by
    have e : y = (p1, Value.ref a) := by simpa using hy
    subst e
    exact (S.par p1 (by simp)).imp id fun z => ⟨z, PySem.W.cellsFrom_some _ _ _ (.inl z)⟩
  refine codeAny_call_function room.depth (inK _ _ lk) rfl S.co S.gen rfl (PySem.W.codeRec_of inK hcd) (bind _ _ _ _ ?_)
  refine wpAny_newFunctionEnv_cells S.kind kinds fun ev hev s2 xx => ?_
  cases hev
  refine ⟨nol.keeps xx.toInCall.keep, codeAny_func ?_⟩
  have J : Inv (cxP P w K mg base N qual (defScope st) f cdv A outer s H (a, oe)) [] (L2.start N [V.ref a]) H s2 := inv_startH (us := [Value.ref a]) (vs := [V.ref a]) S pin e0 rfl (.cons rfl .nil) xx
  have hN : 1 ≤ N.length := by omega
  have re : RE K H (fun _ => False) (fun _ => []) (L2.start N [V.ref a]) H (some (false, .raw a dx xv) :: List.replicate nN none) := by
    refine ⟨by simp [L2.start, eN], Sm.refl H, tabs, fun _ z => z.elim, fun i e h => ?_, fun i e h => ?_, fun i b z => (nomatch z), fun i j b z => (nomatch z)⟩
    · cases i with
      | zero =>
        simp at h
        subst h
        exact ⟨.ref a, by simp [L2.start], .raw hx⟩
      | succ i =>
        rw [List.getElem?_cons_succ, List.getElem?_replicate] at h
        split at h <;> cases h
    · cases i with
      | zero => simp at h
      | succ i =>
        rw [List.getElem?_cons_succ, List.getElem?_replicate] at h
        split at h <;> cases h
  refine wpAny_mono ((hb cdv A outer s H a dx oe (room.deeper _) hz hf).run [] s2 (L2.start N [V.ref a]) H { nx := fun _ _ => False, rt := Q } J ⟨H, _, _, _, re, by rw [hm a dx xv]; exact fun v H' sm rv => q v H' sm (Rp.mono (fun _ z => .inl z.elim) rv)⟩) (fun fl s3 hs => ?_) fun e s3 hs => hs
  cases fl with
  | ret u =>
    obtain ⟨v, σ', H', J', rv, q'⟩ := hs
    exact ⟨v, H', J'.os, J'.bare, J'.base, J'.hok, rv, q'⟩
  | next =>
    obtain ⟨_, _, _, q'⟩ := hs
    exact q'.elim
  | brk =>
    obtain ⟨_, _, _, q'⟩ := hs
    exact q'.elim
  | cont =>
    obtain ⟨_, _, _, q'⟩ := hs
    exact q'.elim
end
end S

/-! try: body, several clauses 'except X as n' -/
namespace S
open PySem PySem.Spec PyProof.Rows L2
/-- where a clause's suite ends: its name is gone -/
def endsA (i : Nat) (D : Ends) : Ends := { nx := fun σ H => D.nx (σ.set i none) H, rt := D.rt, bk := fun σ H => D.bk (σ.set i none) H, ct := fun σ H => D.ct (σ.set i none) H }
/-- one clause after the other -/
def wClauses (K : PySem.W.Frag) (i : Nat) (Wout : WX) (D : Ends) : List (Value × (Addr → Value → Option Addr → TS)) → WX
  | [] => Wout
  | (c, ts) :: r => fun cls d σ H => ∃ b, PySem.W.exmOne K cls c = some b ∧ (b = true → ∀ a, H a = none → ts a cls d (endsA i D) (σ.set i (some (.ref a))) H) ∧ (b = false → wClauses K i Wout D r cls d σ H)
inductive Clauses (X : Cx) (n : Str) : List ExceptHandler → List (Value × (Addr → Value → Option Addr → TS)) → Prop
  | nil : Clauses X n [] []
  | cons {x : Str} {c : Value} {ts : Addr → Value → Option Addr → TS} {b0 : Stmt} {su : List Stmt} {np p' : Pos} {hs : List ExceptHandler} {l : List (Value × (Addr → Value → Option Addr → TS))} (hc : Names X x c)
      (hsu : ∀ (a : Addr) (oe : Obj) (cls : Value) (d : Option Addr) (pn : List (Addr × Obj)), Zc cls d oe → (∃ vs, oe.data = .fields vs) → PSs (X.suite a ((a, oe) :: pn)) (b0 :: su) (ts a cls d)) (r : Clauses X n hs l) :
      Clauses X n (.ExceptHandler (some (.Name x np)) (some n) (b0 :: su) p' :: hs) ((c, ts) :: l)
section
variable {X : Cx} {n : Str} {i : Nat} {body : List Stmt} {h0 : ExceptHandler} {hs : List ExceptHandler} {l : List (Value × (Addr → Value → Option Addr → TS))} {pos : Pos} {tb : WX → TS} {Wout : WX}
theorem ps_try_clauses (est : X.stack = X.env :: X.outer) (efr : X.env.frame = some X.env.locals) (nd : X.N.Nodup) (ei : X.N[i]? = some n) (eln : X.env.kindOf n = some .local) (tk : Takes X Wout)
    (hb : ∀ (W : WX) (pn : List (Addr × Obj)) (xe : Value → Shared → Prop), Takes (X.tr pn xe) W → PassesOwn (model X.prog X.w) X.A X.env xe → PSs (X.tr pn xe) body (tb W)) (hh : Clauses X n (h0 :: hs) l) :
    PS X (.Try body (h0 :: hs) [] [] pos) (fun D σ H => tb (wClauses X.K i Wout D l) D σ H) := by
  refine ⟨fun pins s σ H D I h => ?_⟩
  have okX := I.ok
  have frames : X.A.frames = some (X.env :: X.outer) := by rw [okX.frames, est]
  have isl : Loc X.env.scope n := .inl eln
  refine wpAny_Try_except ?_
  let XE' : Value → Shared → Prop := fun e s₁ => wpAny (model X.prog X.w) X.A (noteFrame e X.env) (fun _ s₂ => wpAny (model X.prog X.w) X.A (setFlight e none) (fun _ s₃ => wpAny (model X.prog X.w) X.A (handleBy e X.env (h0 :: hs)) (SP X pins D) X.xe s₃) X.xe s₂) X.xe s₁
  have run := (hb (wClauses X.K i Wout D l) (X.pn ++ pins) XE' (fun u s' xx => ?caught) PassesOwn.looking).run [] s σ H D (I.toTry _) h
  case caught =>
    obtain ⟨a, B, sI, pins', σ', H', cls, d, rfl, J', nb, up, sky, na, os, ag, w⟩ := xx
    have J0 : Inv X pins σ' H' sI := J'.ofTry okX
    have sky0 : Sky B (X.env :: X.outer) a (Zc cls d) X.env.locals s'.heap := by rw [← est]; exact sky
    show wpAny (model X.prog X.w) X.A (noteFrame (.ref a) X.env) _ _ _
    refine Sky.land Zc.steady frames efr sky0 fun g3 fy3 to3 => ?_
    have J1 : Inv X pins σ' H' { s' with heap := g3 } := J0.landed nb fy3.1 (up.trans to3) os ag
    obtain ⟨ox, ws, hox, hzx, hdx⟩ := fy3.there
    have apart : a ∉ frs (X.env :: X.outer) := fun hm => by
      obtain ⟨_, o2, e2, hnf⟩ := fy3.2.2.1.mem hm
      rw [hox] at e2
      cases e2
      exact hnf _ hdx
    have ne1 : a ≠ X.env.locals := fun z => apart (List.mem_filterMap.mpr ⟨X.env, List.mem_cons_self, by rw [efr, z]⟩)
    have ne2 : a ∉ X.fs := fun hm => by
      obtain ⟨e, he, q⟩ := List.mem_filterMap.mp hm
      exact apart (List.mem_filterMap.mpr ⟨e, List.mem_cons_of_mem _ he, q⟩)
    have inS := J1.suite hox hdx na ne1 ne2
    have ask : ∀ {hds : List ExceptHandler} {cl : List (Value × (Addr → Value → Option Addr → TS))}, Clauses X n hds cl → wClauses X.K i Wout D cl cls d σ' H' → wpAny (model X.prog X.w) X.A (handleBy (.ref a) X.env hds) (SP X pins D) X.xe { s' with heap := g3 } := by
      intro hds cl hk
      induction hk with
      | nil =>
        intro w
        refine wpAny_handleBy_nil ?_
        obtain ⟨_, _, _, o5, w5, T5, oT5, t5, q1, q2, q3, q4, q5⟩ := id fy3
        unfold PySem.passOn
        refine wpAny_bind (wpAny_field q1 q3 q4 ?_)
        rw [if_neg (show ¬ ((Value.ref T5 == Value.none) = true) from by simp)]
        have last : wpAny (model X.prog X.w) X.A (setFlight (.ref a) X.env.frame) (fun _ s4 => wpAny (model X.prog X.w) X.A (throw (.ref a) : Sem Flow) (SP X pins D) X.xe s4) X.xe { s' with heap := g3 } := by
          rw [efr]
          exact HandSPX.setFlight_upZ fy3 fun g4 up4 to4 => wpAny_throw (tk _ _ ⟨a, B, sI, pins, σ', H', cls, d, rfl, J0, nb, (up.trans to3).trans to4, .inr (.inr (by rw [est]; exact up4)), na, os, ag, w⟩)
        first | exact wpAny_bind (wpAny_pure (wpAny_bind last)) | exact wpAny_bind last
      | @cons x c ts b0 su np p' hs2 l2 hc hsu r ih =>
        intro w
        obtain ⟨b, w1, w2, w3⟩ := w
        refine wpAny_handleBy_cons (codeAny_handlers_test ?_) (by intro q; cases q)
        have ty : PySem.W.Looks (model X.prog X.w) g3 (typeOf (.ref a)) cls := fun A Q E s k q => wpAny_typeOf_ref (k _ _ hox) (by rw [hzx.1]; exact q)
        have mt := PySem.W.exm_one (M := model X.prog X.w) J1.kIn ty w1
        have named : ∀ {Q : Value → Shared → Prop} {E : Value → Shared → Prop}, Q c { s' with heap := g3 } → wpAny (model X.prog X.w) (X.A.mark (some (.ref a))) (eval (.Name x np) X.env) Q E { s' with heap := g3 } := fun {Q E} q => by
          obtain ⟨n1, n2, n3 | ⟨n3, n4, n5⟩⟩ := hc
          · exact ld_glob (X := X.suite a ((a, ox) :: (X.pn ++ pins))) inS n1 n3 q n2
          · exact ld_blt (X := X.suite a ((a, ox) :: (X.pn ++ pins))) inS n1 n3 n4 q n5 n2
        refine named (mt.here ?_)
        cases b with
        | false => exact ih (w3 rfl)
        | true =>
          refine codeAny_handlers_suite_as (HandSPX.lands_againZ fy3 fun g4 fy4 to4 => ?_)
          have J2 : Inv X pins σ' H' { s' with heap := g4 } := J0.landed nb fy4.1 ((up.trans to3).trans to4) os ag
          obtain ⟨oy, wy, hoy, hzy, hdy⟩ := fy4.there
          have inS4 := J2.suite hoy hdy na ne1 ne2
          refine store_ok (X := X.suite a ((a, oy) :: (X.pn ++ pins))) (v := .ref a) inS4 nd ei isl rfl (fun s5 S5 => ?_) (.inr eln)
          refine wpAny_mono ((hsu a oy cls d (X.pn ++ pins) hzy ⟨_, hdy⟩).run [] s5 _ H' _ S5 (w2 rfl a na)) (fun f s6 hsp => ?_) (fun _ _ z => False.elim z)
          have gone : ∀ {σ6 : L2.St} {H6 : Hp} {Q : Shared → Prop}, Inv (X.suite a ((a, oy) :: (X.pn ++ pins))) [] σ6 H6 s6 → (∀ s7, Inv X pins (σ6.set i none) H6 s7 → Q s7) → wpAny (model X.prog X.w) X.A (do bindName X.env n .none; unbindBehindTheSuite X.env n p') (fun _ s7 => Q s7) X.xe s6 := fun {σ6 H6 Q} S6 hq => gone_ok (S6.unsuite okX) nd ei eln hq
          cases f with
          | next => obtain ⟨σ6, H6, S6, q6⟩ := hsp; exact gone S6 fun s7 J7 => ⟨_, _, J7, q6⟩
          | brk => obtain ⟨σ6, H6, S6, q6⟩ := hsp; exact gone S6 fun s7 J7 => ⟨_, _, J7, q6⟩
          | cont => obtain ⟨σ6, H6, S6, q6⟩ := hsp; exact gone S6 fun s7 J7 => ⟨_, _, J7, q6⟩
          | ret u => obtain ⟨v6, σ6, H6, S6, r6, q6⟩ := hsp; exact gone S6 fun s7 J7 => ⟨_, _, _, J7, r6, q6⟩
    exact ask hh w
  refine wpAny_mono run (fun f s1 hsp => ?_) (fun e s1 he => he)
  cases f with
  | next => obtain ⟨σ', H', J', q⟩ := hsp; exact wpAny_execs_nil ⟨σ', H', J'.ofTry okX, q⟩
  | brk => obtain ⟨σ', H', J', q⟩ := hsp; exact ⟨σ', H', J'.ofTry okX, q⟩
  | cont => obtain ⟨σ', H', J', q⟩ := hsp; exact ⟨σ', H', J'.ofTry okX, q⟩
  | ret u => obtain ⟨v, σ', H', J', r, q⟩ := hsp; exact ⟨v, σ', H', J'.ofTry okX, r, q⟩
end
end S

/-! a lambda handed to a def that tells how it is refused -/
namespace S
open PySem PySem.Spec PyProof.Rows L2
/-- as Fun, the code object known -/
structure FunC (K : PySem.W.Frag) (x qual : Str) (st : Stmt) (f : Addr) (fd : FuncData) (c : Addr) : Prop where
  ex : ∃ (oc : Value) (od : Option Addr) (kV doc pm : Value) (an : Option Addr) (ct : Value) (osl : Array (Option Value)),
    fd = PySem.W.fnOf x qual (defArgs st) (defBody st) (defScope st) .none kV doc pm an (.ref c) ct ∧ K.lookup f = some ⟨oc, od, .func fd, osl⟩ ∧ PySem.W.codeIn K (.ref c) qual = true
theorem fn_okC {P : Program} {w : World} {K : KT} {mg : Str → Option Value} {base : Heap} {x qual : Str} {st : Stmt} {f : Addr} {fd : FuncData} {c : Addr} {N ps : List Str} {k n nN : Nat} {m : Env → Out} {g : List D → RD} (F : FunC K x qual st f fd c) (S : FnScope N ps (defScope st)) (hg : g = mFn n nN m) (en : ps.length = n) (eN : N.length = nN)
    (hb : ∀ (A : Around) (outer : List PySem.Env) (s : Shared) (H : Hp) (E : XK), Room k (A.deeper (envOfC qual (defScope st) s.heap.objs.size f (.ref c))) →
      Passes (L2.CX P w) (cxOf (L2.CX P w) P w K mg base N qual (defScope st) f (.ref c) A outer s H E) E →
      Takes (cxOf (L2.CX P w) P w K mg base N qual (defScope st) f (.ref c) A outer s H E) (fun cls d _ H => E cls d H) →
      PassesOwn (model P w) (cxOf (L2.CX P w) P w K mg base N qual (defScope st) f (.ref c) A outer s H E).A (cxOf (L2.CX P w) P w K mg base N qual (defScope st) f (.ref c) A outer s H E).env (cxOf (L2.CX P w) P w K mg base N qual (defScope st) f (.ref c) A outer s H E).xe →
      PSs (cxOf (L2.CX P w) P w K mg base N qual (defScope st) f (.ref c) A outer s H E) (defBody st) (sP ⟨K, mg, E⟩ m)) : FnOk P w K mg base (L2.CX P w) (k + 1) f fd ps (spP K mg n g) := by
  subst hg en eN
  have hpl : ps.length ≤ N.length := by have := congrArg List.length S.pre; rw [List.length_take] at this; omega
  obtain ⟨oc, od, kV, doc, pm, an, ct, osl, rfl, lk, hcd⟩ := F.ex
  refine fn_of lk hcd S (fun vs H Q E h => h.1) fun A outer s H vs Q E hr h => ⟨_, hb A outer s H E hr (passes_call (takes_of rfl rfl rfl rfl) fun _ _ _ _ h => h) (takes_of rfl rfl rfl rfl) (passes_of rfl), ?_⟩
  obtain ⟨hl, O, ds, hO, hT, rl, po⟩ := h
  have hld : ds.length = ps.length := by rw [← rl.len]; exact hl
  unfold mFn at po
  rw [if_pos hld] at po
  have get : ∀ {i : Nat} {fl : Bool} {d : D}, (ds.map (fun d => some (false, d)) ++ List.replicate (N.length - ps.length) none)[i]? = some (some (fl, d)) → fl = false ∧ ds[i]? = some d := fun {i fl d} e => by
    by_cases hi : i < ds.length
    · rw [List.getElem?_append_left (by simpa using hi), List.getElem?_map] at e
      cases q : ds[i]? with
      | none => rw [q] at e; cases e
      | some d' => rw [q] at e; cases e; exact ⟨rfl, rfl⟩
    · rw [List.getElem?_append_right (by simpa using Nat.le_of_not_lt hi), List.getElem?_replicate] at e
      split at e <;> cases e
  have re : RE K H O (fun _ => []) (L2.start N vs) H (ds.map (fun d => some (false, d)) ++ List.replicate (N.length - ps.length) none) := by
    refine ⟨by simp [L2.start, hl, hld], Sm.refl H, hT, hO, fun i d e => ?_, fun i d e => ?_, fun i a z => (nomatch z), fun i j a z => (nomatch z)⟩
    · obtain ⟨_, e1⟩ := get e
      obtain ⟨v, h1, h2⟩ := rl.get e1
      refine ⟨v, ?_, h2.mono fun a z => .inl (z.elim id fun ⟨_, z⟩ => nomatch z)⟩
      have hi := (List.getElem?_eq_some_iff.mp h1).1
      unfold L2.start
      rw [List.getElem?_append_left (by simpa using hi), List.getElem?_map, h1]
      rfl
    · exact nomatch (get e).1
  refine ⟨H, O, fun _ => [], _, re, ?_⟩
  cases q : m (ds.map (fun d => some (false, d)) ++ List.replicate (N.length - ps.length) none) with
  | nx e => rw [q] at po; exact fun ow σ H' re' => po .non H' re'.ext .non
  | rt fr d => rw [q] at po; exact po
  | ex n a => rw [q] at po; exact po
  | _ => rw [q] at po; exact po.elim
/-! ### the call of a def that is handed the exception -/
section
open L2H
variable {X : Cx} {t : Ctx} {k : Nat} {f : Addr} {fd : FuncData} {ps : List Str} {Dc a : Addr} {dx : Option Addr} {oe : Obj} {d : D} {x e : Str} {p p2 pos : Pos}
/-- slot i holds the exception at a: d is told -/
def eKnd (i : Nat) (a : Addr) (dx : Option Addr) (d : D) : Env → RD := fun env => match env[i]? with
  | some (some (_, .raw a' dx' _)) => if a' = a ∧ dx' = dx then .ok (false, d) else .no
  | _ => .no
theorem se_kind {i : Nat} (F : FnP X.prog X.w t.K X.mg X.base k f fd ps Dc d) (hK : t.K.K = X.K) (hd : lf d = true) (hr : RoomH k X.A) (hz : Zc (.ref Dc) dx oe) (hf : ∃ vs, oe.data = .fields vs) (hp : (a, oe) ∈ X.pn) (hg : Gl X x) (hm : X.mg x = some (.ref f)) (hk : PySem.W.keepIn X.K (.ref f) = true) (hb : Binds X.K fd ps [])
    (hv : PE X (.Name e p2) (tVar i)) (hdb : (x == ("__debug__" : Str)) = false := by decide) (he : starEach [.Name e p2] X.env = (false, eval (.Name e p2) X.env) :: starEach [] X.env := by rfl) (hpl : (backTo pos (starEach [] X.env)).any (·.1) = false := by rfl) :
    PE X (.Call (.Name x p) [.Name e p2] [] pos) (eP t [] (eKnd i a dx d)) := by
  refine ⟨fun pins s σ H Q I h => ?_⟩
  obtain ⟨B, O, ow, env, re, po⟩ := h
  unfold eKnd at po
  split at po
  case h_2 => exact po.elim
  rename_i fl a' dx' xv e1
  split at po
  case isFalse => exact po.elim
  rename_i ea
  obtain ⟨ea, ed⟩ := ea
  subst ea ed
  obtain ⟨hs, hx⟩ := slot_raw re e1
  refine wpAny_Call_Name_kw (ld_glob I hg hm ?_ hdb)
  refine PySem.W.callWith_K (h₀ := X.base) I.ok.mod.kin hk (thn ((pa_cons hv pa_nil he).run pos pins s σ H (fun vs H1 => vs = [.ref a'] ∧ H1 = H) I ⟨.ref a', hs, rfl, rfl⟩) fun us s1 hh => ?_) he hpl
  obtain ⟨vs, H1, I1, r, q⟩ := hh
  refine ⟨I1.kIn, ?_⟩
  obtain ⟨ev, eH⟩ := q
  subst ev
  subst eH
  match us, r with
  | [u], .cons r1 .nil =>
  cases r1
  have bd := hb s1 [.ref a'] I1.kIn (by rw [List.append_nil]; exact F.len.symm)
  rw [List.append_nil] at bd
  have P1 := I1.pin (a', oe) (List.mem_append_left _ hp)
  have pin : PinOk X.stack H1 s1 (a', oe) := ⟨P1.1, P1.2.1, fun hm => (List.mem_cons.mp (I1.stkSub a' hm)).elim P1.2.2.1 P1.2.2.2.1, P1.2.2.2.2⟩
  have e0 := I1.env0
  have e0' : Env0 X.prog X.w t.K.K X.mg X.base X.A X.stack s1 H1 := by rw [hK]; exact e0
  have R := F.run X.A X.stack s1 H1 ⟨[.ref a'], []⟩ a' dx' xv oe Q hr pin hz hx hf e0' bd re.tabs fun v H' sm rv => po v H' sm (Rp.free hd rv)
  refine wpAny_call (codeAny_mono R fun r' s' hq => ?_)
  cases r' with
  | error e => exact False.elim hq
  | ok fl =>
    cases fl with
    | ret u => exact I1.after hq
    | next => exact False.elim hq
    | brk => exact False.elim hq
    | cont => exact False.elim hq
/-- what a field may hold -/
def atD : D → Bool
  | .int _ => true | .non => true | _ => false
def ofV : V → Option D
  | .int i => some (.int i) | .non => some .non | _ => none
theorem ofV_of {K : PySem.W.Frag} {H : Hp} {O : Addr → Prop} {v : V} {d : D} (h : Rp K H O v d) (a : atD d = true) : ofV v = some d := by
  cases h <;> first | rfl | (simp [atD] at a)
theorem ofV_rp {K : PySem.W.Frag} {H : Hp} {O : Addr → Prop} {v : V} {d : D} (h : ofV v = some d) : Rp K H O v d := by
  cases v <;> simp [ofV] at h
  · subst h; exact .non
  · subst h; exact .int _
/-- e.at, slot i holding the exception -/
def eAt (i : Nat) (a : Addr) (dx : Option Addr) : Env → RD := fun env => match env[i]? with
  | some (some (_, .raw a' (some dd) v)) => if a' = a ∧ some dd = dx then (match ofV v with
    | some d => .ok (false, d)
    | none => .no) else .no
  | _ => .no
theorem se_at {i : Nat} {pn : List (Addr × Obj)} {Y : Cx} (T : XfC Y.K Dc) (hno : PySem.W.findIn Y.K (.ref Dc) "at" = some none) (hz : Zc (.ref Dc) dx oe) (hf : ∃ vs, oe.data = .fields vs)
    (hv : PE (Y.suite a ((a, oe) :: pn)) (.Name e p2) (tVar i)) (hb : attributeBase (.Name e p2) "at" Y.env (eval (.Name e p2) Y.env) = eval (.Name e p2) Y.env := by rfl) :
    PE (Y.suite a ((a, oe) :: pn)) (.Attribute (.Name e p2) "at" pos) (eP t [] (eAt i a dx)) :=
  (pe_xf T hno hz hf hv hb).imp fun σ H Q ⟨B, O, ow, env, re, po⟩ => by
    unfold eAt at po
    split at po
    case h_2 => exact po.elim
    rename_i fl a' dd v e1
    split at po
    case isFalse => exact po.elim
    rename_i ea
    obtain ⟨ea, ed⟩ := ea
    subst ea
    obtain ⟨h1, h2⟩ := slot_raw re e1
    cases q : ofV v with
    | none => rw [q] at po; exact po.elim
    | some d =>
      rw [q] at po
      exact ⟨.ref a', h1, rfl, rfl, dd, _, v, ed.symm, h2 dd rfl, rfl, po v H (Sm.refl H) (ofV_rp q)⟩
end
end S

namespace S
open PySem PySem.Spec PyProof.Rows L2
/-- what is told of an exception: its class, its field -/
abbrev HowT := Str → Option D → Option D
/-- what a deed is refused with -/
def eHow (f : HowT) (m : Env → RD) : Env → RD := fun env => match m env with
  | .ok _ => .ok (false, .str "told")
  | .ex n a => match f n a with
    | some d => .ok (false, d)
    | none => .no
  | .no => .no
/-- where an exception's field lies -/
def AtOk (K : PySem.W.Frag) (H : Hp) (dx : Option Addr) (a : Option D) : Prop := match a with
  | none => dx = none
  | some d => ∃ x v, dx = some x ∧ H x = some (.xd [("at", v)]) ∧ Rp K H Nob v d
/-- the wish of the handler -/
def EH (K : KT) (mg : Str → Option Value) (f : HowT) (Q : VK) : XK := fun cls dx H => ∃ n C a d, cls = .ref C ∧ mg n = some (.ref C) ∧ AtOk K H dx a ∧ f n a = some d ∧ LamX.Tabs K.T H ∧ ∀ v H', Sm K.T H H' → Rp K H' Nob v d → Q v H'
def TTH (K : KT) (mg : Str → Option Value) (f : HowT) : (XK → Hp → VK → Prop) → Hp → VK → Prop := fun tl H Q => tl (EH K mg f Q) H fun _ H1 => Q (.str "told") H1
/-- what is known of the exception that is handled -/
def Held (a : Option D) (dx : Option Addr) (xv : V) : Prop := match a with
  | none => dx = none
  | some d => (∃ x, dx = some x) ∧ ofV xv = some d
theorem AtOk.held {K : PySem.W.Frag} {H : Hp} {dx : Option Addr} {a : Option D} (h : AtOk K H dx a) (ha : ∀ d, a = some d → atD d = true) : ∃ xv, Held a dx xv ∧ ∀ dd, dx = some dd → H dd = some (.xd [("at", xv)]) := by
  cases a with
  | none => exact ⟨.non, h, fun dd e => by rw [show dx = none from h] at e; cases e⟩
  | some d =>
    obtain ⟨x, v, h1, h2, h3⟩ := h
    exact ⟨v, ⟨⟨x, h1⟩, ofV_of h3 (ha d rfl)⟩, fun dd e => by rw [h1] at e; cases e; exact h2⟩
section
variable {X : Cx} {T : List (Addr × Str)} {f : HowT}
/-- the def's context -/
abbrev howCx (X : Cx) (Ng : List Str) (x : Str) (sg : Scope) (g : Addr) (cdg : Value) (s : Shared) (H : Hp) : Cx := (cxOf C8.CX0 X.prog X.w X.K X.mg X.base Ng x sg g cdg X.A X.stack s H C8.E0).nox
def tsHow (K : KT) (mg : Str → Option Value) (f : HowT) (i : Nat) (a : Addr) (cls : Value) (dx : Option Addr) : TS := fun D σ H => ∃ n C b d, cls = .ref C ∧ mg n = some (.ref C) ∧ AtOk K H dx b ∧ f n b = some d ∧ LamX.Tabs K.T H ∧ (∃ σ' : L2.St, σ = σ'.set i (some (.ref a))) ∧ ∀ v H', Sm K.T H H' → Rp K H' Nob v d → D.rt v H'
theorem re_held {K : KT} {H : Hp} {σ σ' : L2.St} {a : Addr} {dx : Option Addr} {xv : V} {i n : Nat} (hl : σ.length = n) (ht : LamX.Tabs K.T H) (h5 : σ = σ'.set i (some (.ref a))) (hx : ∀ dd, dx = some dd → H dd = some (.xd [("at", xv)])) :
    RE K H (fun _ => False) (fun _ => []) σ H ((List.replicate n none).set i (some (false, .raw a dx xv))) := by
  refine ⟨by rw [List.length_set, List.length_replicate]; exact hl, Sm.refl H, ht, fun _ z => z.elim, fun j e hj => ?_, fun j e hj => ?_, fun j b z => (nomatch z), fun j k b z => (nomatch z)⟩
  · rcases set_get hj with ⟨rfl, e1, hi⟩ | ⟨ne, e1⟩
    · cases e1
      refine ⟨.ref a, ?_, .raw hx⟩
      rw [List.length_replicate] at hi
      rw [h5] at hl ⊢
      rw [List.length_set] at hl
      exact List.getElem?_set_self (by omega)
    · rw [List.getElem?_replicate] at e1
      split at e1 <;> cases e1
  · rcases set_get hj with ⟨rfl, e1, hi⟩ | ⟨ne, e1⟩
    · cases e1
    · rw [List.getElem?_replicate] at e1
      split at e1 <;> cases e1
theorem how_gives {x a en wn q : Str} {sg : Scope} {g W : Addr} {cdg : Value} {j : Nat} {p1 p2 p3 p4 p5 p6 p7 p8 : Pos} {b0 : Stmt} {suite : List Stmt} (hge : sg.names.lookup wn = some .globalImplicit) (hme : X.mg wn = some (.ref W)) (hde : (wn == ("__debug__" : Str)) = false) (hnd : [a, en].Nodup) (hen : sg.names.lookup en = some .local)
    (hat : ∀ n d r, f n (some d) = some r → atD d = true)
    (hcls : ∀ (n : Str) (b : Option D) (d : D) (C : Addr), f n b = some d → X.mg n = some (.ref C) → PySem.W.exmOne X.K (.ref C) (.ref W) = some true ∧ ∀ (s : Shared) (H : Hp) (ae : Addr) (dx : Option Addr) (xv : V) (oe : Obj) (pn : List (Addr × Obj)), Held b dx xv → Zc (.ref C) dx oe → (∃ vs, oe.data = .fields vs) →
      ∃ m, PSs ((howCx X [a, en] x sg g cdg s H).suite ae ((ae, oe) :: pn)) (b0 :: suite) (sP ⟨⟨X.K, T⟩, X.mg, C8.E0⟩ m) ∧ m [none, some (false, .raw ae dx xv)] = .rt false d) :
    LamX.GivesTo X [a, en] x sg g cdg [.Try [.Expr (.Call (.Name a p1) [] [] p2) p3] [.ExceptHandler (some (.Name wn p4)) (some en) (b0 :: suite) p5] [] [] p6, .Return (some (.Constant (.str "told") j p7)) p8] a q (TTH ⟨X.K, T⟩ X.mg f) := by
  intro fa c' s H Q tl act hc h
  have hgl : Gl (howCx X [a, en] x sg g cdg s H) wn := hge
  refine ⟨_, pss_cons (ps_try_as (X := howCx X [a, en] x sg g cdg s H) (c := .ref W) (i := 1) (Wout := fun _ _ _ _ => False) (ts := tsHow ⟨X.K, T⟩ X.mg f 1)
      (tb := fun W D σ H => ∃ Ech : XK, (∀ cls d σ' H', Ech cls d H' → W cls d σ' H') ∧ σ[0]? = some (some (.ref fa)) ∧ H c' = some (LamX.CodeO c' q) ∧ tl Ech H fun _ H1 => D.nx σ H1)
      rfl rfl hnd rfl hen ⟨hgl, hde, .inl hme⟩ L2.takes0 (fun W pn xe tk _ => ?_) (fun ae oe cls d pn hz hf => ?_)) (pss_one (ps_ret pe_str)), ?_⟩
  · refine ⟨fun pins s' σ H' D I h' => ?_⟩
    obtain ⟨Ech, hW, h1, h2, h3⟩ := h'
    have hp := act W pn xe Ech p1 p2 tk hW
    have hq := pss_one (ps_expr (pos := p3) hp)
    exact hq.run pins s' σ H' D I ⟨h1, h2, h3⟩
  · refine ⟨fun pins s' σ H' D I h' => ?_⟩
    obtain ⟨n, C, b, d', rfl, h1, h2, h3, h4, ⟨σ', h5⟩, h6⟩ := h'
    obtain ⟨_, hs⟩ := hcls n b d' C h3 h1
    obtain ⟨xv, hd, hx⟩ := h2.held fun e he => hat n e d' (by rw [← he]; exact h3)
    obtain ⟨m, hm, he⟩ := hs s H ae d xv oe pn hd hz hf
    have hl : σ.length = 2 := I.len
    have re := re_held (K := ⟨X.K, T⟩) (n := 2) hl h4 h5 hx
    exact hm.run pins s' σ H' D I ⟨H', fun _ => False, fun _ => [], _, re, by
      rw [show (List.replicate 2 (none : Option (Bool × S.D))).set 1 (some (false, .raw ae d xv)) = [none, some (false, .raw ae d xv)] from rfl, he]
      exact fun v H'' sm rv => h6 v H'' sm (Rp.mono (fun _ z => .inl z.elim) rv)⟩
  · refine ⟨EH ⟨X.K, T⟩ X.mg f Q, fun cls dx σ' H' hE => ?_, rfl, hc, h⟩
    obtain ⟨n, C, b, d, rfl, h1, h2, h3, h4, h5⟩ := hE
    exact ⟨true, (hcls n b d C h3 h1).1, fun _ ae _ => ⟨n, C, b, d, rfl, h1, h2, h3, h4, ⟨σ', rfl⟩, h5⟩, fun z => nomatch z⟩
/-! several clauses, each of which sets what is told -/
def tsSet (K : KT) (mg : Str → Option Value) (f : HowT) (a : Addr) (cls : Value) (dx : Option Addr) : TS := fun D σ H => ∃ n C b d, cls = .ref C ∧ mg n = some (.ref C) ∧ AtOk K H dx b ∧ f n b = some d ∧ LamX.Tabs K.T H ∧ (∃ σ' : L2.St, σ = σ'.set 2 (some (.ref a))) ∧ ∀ σ2 v H', Sm K.T H H' → σ2.length = 3 → σ2[1]? = some (some v) → Rp K H' Nob v d → D.nx σ2 H'
/-- the clauses: each one's class, and what its suite does; f is what is told of the classes that are served -/
inductive HowCl (X : Cx) (T : List (Addr × Str)) (f : HowT) (Y : Cx) (en : Str) : List ExceptHandler → List Addr → Prop
  | nil : HowCl X T f Y en [] []
  | cons {wn : Str} {W : Addr} {b0 : Stmt} {su : List Stmt} {p4 p5 : Pos} {hs : List ExceptHandler} {l : List Addr} (hge : Gl Y wn) (hme : Y.mg wn = some (.ref W)) (hde : (wn == ("__debug__" : Str)) = false)
      (hsu : ∀ (n : Str) (b : Option D) (d : D) (C : Addr), f n b = some d → X.mg n = some (.ref C) → PySem.W.exmOne X.K (.ref C) (.ref W) = some true → ∀ (ae : Addr) (dx : Option Addr) (xv : V) (oe : Obj) (pn : List (Addr × Obj)), Held b dx xv → Zc (.ref C) dx oe → (∃ vs, oe.data = .fields vs) →
        ∃ m, PSs (Y.suite ae ((ae, oe) :: pn)) (b0 :: su) (sP ⟨⟨X.K, T⟩, X.mg, C8.E0⟩ m) ∧ m [none, none, some (false, .raw ae dx xv)] = .nx [none, some (false, d), some (false, .raw ae dx xv)]) (r : HowCl X T f Y en hs l) : HowCl X T f Y en (.ExceptHandler (some (.Name wn p4)) (some en) (b0 :: su) p5 :: hs) (W :: l)
theorem HowCl.clauses {Y : Cx} {en : Str} (hK : Y.K = X.K) (hN : Y.N.length = 3) (hat : ∀ n d r, f n (some d) = some r → atD d = true) : ∀ {hs : List ExceptHandler} {l : List Addr}, HowCl X T f Y en hs l → Clauses Y en hs (l.map fun W => (.ref W, fun ae cls dx D σ H => PySem.W.exmOne X.K cls (.ref W) = some true ∧ tsSet ⟨X.K, T⟩ X.mg f ae cls dx D σ H))
  | _, _, .nil => .nil
  | _, _, .cons hge hme hde hsu r => by
    refine .cons ⟨hge, hde, .inl hme⟩ (fun ae oe cls dx pn hz hf => ⟨fun pins s' σ H' D I h' => ?_⟩) (r.clauses hK hN hat)
    obtain ⟨hx0, n, C, b, d', rfl, h1, h2, h3, h4, ⟨σ', h5⟩, h6⟩ := h'
    obtain ⟨xv, hd, hx⟩ := h2.held fun e he => hat n e d' (by rw [← he]; exact h3)
    obtain ⟨m, hm, he⟩ := hsu n b d' C h3 h1 hx0 ae dx xv oe pn hd hz hf
    have hl : σ.length = 3 := by rw [← hN]; exact I.len
    have re := re_held (K := ⟨X.K, T⟩) (n := 3) hl h4 h5 hx
    exact hm.run pins s' σ H' D I ⟨H', fun _ => False, fun _ => [], _, re, by
      rw [show (List.replicate 3 (none : Option (Bool × S.D))).set 2 (some (false, .raw ae dx xv)) = [none, none, some (false, .raw ae dx xv)] from rfl, he]
      intro ow σ2 H2 re2
      obtain ⟨v, q1, q2⟩ := re2.fz 1 d' rfl
      exact h6 σ2 v H2 re2.ext re2.len q1 (Rp.mono (fun _ z => .inl z.elim) q2)⟩
/-- which classes are served, one behind another -/
def Serves (K : PySem.W.Frag) : List Addr → Addr → Prop
  | [], _ => False
  | W :: l, C => PySem.W.exmOne K (.ref C) (.ref W) = some true ∨ (PySem.W.exmOne K (.ref C) (.ref W) = some false ∧ Serves K l C)
theorem serves_w {i : Nat} {D : Ends} {dx : Option Addr} {σ' : L2.St} {H' : Hp} {F : Addr → Value × (Addr → Value → Option Addr → TS)} {C : Addr} (hF : ∀ W, (F W).1 = .ref W) (h : ∀ W, PySem.W.exmOne X.K (.ref C) (.ref W) = some true → ∀ a, H' a = none → (F W).2 a (.ref C) dx (endsA i D) (σ'.set i (some (.ref a))) H') : ∀ {l : List Addr}, Serves X.K l C →
    wClauses X.K i (fun _ _ _ _ => False) D (l.map F) (.ref C) dx σ' H'
  | [], q => q.elim
  | W :: l, .inl q => ⟨true, by rw [hF]; exact q, fun _ a ha => h W q a ha, by intro z; cases z⟩
  | W :: l, .inr ⟨q, r⟩ => ⟨false, by rw [hF]; exact q, (by intro z; cases z), fun _ => serves_w hF h r⟩
theorem pe_now {Y : Cx} {i : Nat} {y : Str} {pos : Pos} (h : PE Y (.Name y pos) (tVar i)) : PE Y (.Name y pos) (fun σ H Q => match σ[i]? with
    | some (some v) => Q v H
    | _ => False) := h.imp fun σ H Q q => by
  split at q
  · rename_i v e
    exact ⟨v, e, q⟩
  · exact q.elim
theorem sets_gives {x a hn en q : Str} {sg : Scope} {g : Addr} {cdg : Value} {j : Nat} {p1 p2 p3 p6 p7 p8 p9 p10 p11 : Pos} {h0 : ExceptHandler} {hs : List ExceptHandler} {l : List Addr} (hnd : [a, hn, en].Nodup) (hhn : sg.names.lookup hn = some .local) (hen : sg.names.lookup en = some .local) (hdb : (hn == ("__debug__" : Str)) = false) (hcd : (hn == ("__classdict__" : Str)) = false)
    (hat : ∀ n d r, f n (some d) = some r → atD d = true) (hcl : ∀ (s : Shared) (H : Hp), HowCl X T f (howCx X [a, hn, en] x sg g cdg s H) en (h0 :: hs) l)
    (hsv : ∀ (n : Str) (b : Option D) (d : D) (C : Addr), f n b = some d → X.mg n = some (.ref C) → Serves X.K l C)
    (hsw : ∀ Y : PySem.Env, swapsWith (.Constant (.str "told") j p7) (some (.Name hn p9)) p10.line Y = pure false) :
    LamX.GivesTo X [a, hn, en] x sg g cdg [.Assign [.Name hn p9] (.Constant (.str "told") j p7) p10, .Try [.Expr (.Call (.Name a p1) [] [] p2) p3] (h0 :: hs) [] [] p6, .Return (some (.Name hn p11)) p8] a q (TTH ⟨X.K, T⟩ X.mg f) := by
  intro fa c' s H Q tl act hc h
  let Y := howCx X [a, hn, en] x sg g cdg s H
  have hcs := (hcl s H).clauses (X := X) (T := T) (f := f) (Y := Y) rfl rfl hat
  have hln : Loc Y.env.scope hn := .inl hhn
  refine ⟨_, pss_cons (ps_set (X := Y) (i := 1) hnd rfl hln (pe_str (X := Y)) (hsw _) (.inr hhn)) (pss_cons (ps_try_clauses (X := Y) (i := 2) (Wout := fun _ _ _ _ => False)
      (tb := fun W D σ H => ∃ Ech : XK, (∀ cls d σ' H', Ech cls d H' → W cls d σ' H') ∧ σ[0]? = some (some (.ref fa)) ∧ H c' = some (LamX.CodeO c' q) ∧ tl Ech H fun _ H1 => D.nx σ H1)
      rfl rfl hnd rfl hen L2.takes0 (fun W pn xe tk _ => ?_) hcs) (pss_one (ps_ret (pe_now (pe_var (X := Y) (i := 1) rfl (.inl hhn) hdb hcd))))), ?_⟩
  · refine ⟨fun pins s' σ H' D I h' => ?_⟩
    obtain ⟨Ech, hW, h1, h2, h3⟩ := h'
    have hp := act W pn xe Ech p1 p2 tk hW
    have hq := pss_one (ps_expr (pos := p3) hp)
    exact hq.run pins s' σ H' D I ⟨h1, h2, h3⟩
  · refine ⟨EH ⟨X.K, T⟩ X.mg f Q, fun cls dx σ' H' hE => ?_, rfl, hc, h⟩
    obtain ⟨n, C, b, d, rfl, h1, h2, h3, h4, h5⟩ := hE
    refine serves_w (X := X) (F := fun W => (.ref W, fun ae cls dx D σ H => PySem.W.exmOne X.K cls (.ref W) = some true ∧ tsSet ⟨X.K, T⟩ X.mg f ae cls dx D σ H)) (fun W => rfl) (fun W hW ae hae => ⟨hW, n, C, b, d, rfl, h1, h2, h3, h4, ⟨σ', rfl⟩, fun σ2 v H2 sm l2 e2 rv => ?_⟩) (hsv n b d C h3 h1)
    show (match (σ2.set 2 none)[1]? with
      | some (some v) => Q v H2
      | _ => False)
    rw [List.getElem?_set_ne (by omega), e2]
    exact h5 v H2 sm rv
end
theorem px_lam {X : Cx} {A : Around} {outer : List PySem.Env} {s : Shared} {H : Hp} {E : XK} {scope : Scope} {f c' : Addr} : Passes (L2.CX X.prog X.w) (LamX.lamCx X A outer s H E scope f c') E :=
  passes_call (takes_of rfl rfl rfl rfl) fun _ _ _ _ h => h
section
variable {X : Cx} {t : Ctx} {R : List Nat} {m : Env → RD} {f : HowT}
theorem se_how {x a : Str} {st : Stmt} {g c P : Addr} {fd : FuncData} {k : Nat} {Ng : List Str}
    {params : Arguments} {body : Expr} {scope : Scope} {p lpos pos : Pos} (q : Str) (hq : X.env.qual = q) (hK : t.K.K = X.K) (hmg : t.mg = X.mg) (hlf : ∀ n b d, f n b = some d → lf d = true) (hg : Gl X x) (hm : X.mg x = some (.ref g))
    (F : Fun X.K x x st g fd) (hb : L2.Binds X.K fd [a] []) (Sg : FnScope Ng [a] (defScope st)) (hNg : Ng[0]? = some a) (hva : Vis (defScope st) a)
    (hG : ∀ cdv, LamX.GivesTo X Ng x (defScope st) g cdv (defBody st) a (q ++ "<lambda>") (TTH ⟨X.K, t.K.T⟩ X.mg f))
    (TB : LamX.TabB X.base X.mg c P) (hcode : X.env.code = .ref c) (hmT : (P, q ++ "<lambda>") ∈ t.K.T) (hu : ∀ p ∈ t.K.T, p.1 = P → p.2 = q ++ "<lambda>") (hr : Room (k + 2) X.A) (L : LamX.LamS X.env.scope scope) (hdef : defaultsOf params X.env = ([], []))
    (hbind : ∀ (q : Str) (cl : List (Str × Addr)) (pm cv ctv : Value), bindArgs (PySem.W.kla_fn "<lambda>" q params body scope cl pm cv ctv) ⟨[], []⟩ = pure [])
    (hbody : ∀ (A : Around) (outer : List PySem.Env) (s : Shared) (H : Hp) (E : XK) (f c' : Addr), Room k (A.deeper (LamX.lamEnv X scope s.heap.objs.size f c')) → Passes (L2.CX X.prog X.w) (LamX.lamCx X A outer s H E scope f c') E → PE (LamX.lamCx X A outer s H E scope f c') body (eP ⟨t.K, t.mg, E⟩ R m))
    (hdb : (x == ("__debug__" : Str)) = false := by decide) (hd : (a == ("__debug__" : Str)) = false := by decide) (hcd : (a == ("__classdict__" : Str)) = false := by decide) :
    PE X (.Call (.Name x p) [.Lambda params body scope lpos] [] pos) (eP t R (eHow f m)) := by
  subst hq
  obtain ⟨oc, od, kV, doc, pm, an, cdv, ct, osl, e0, lk, hcg⟩ := F.ex
  subst e0
  refine (LamX.pe_lamcall (T := t.K.T) (t := fun E => eP ⟨t.K, t.mg, E⟩ R m) hg hm F.kp lk hcg hb Sg hNg hva (hG cdv) TB hcode hmT hu hr L hdef hbind (fun A outer s H E f c' hr => hbody A outer s H E f c' hr px_lam) hdb hd hcd).imp fun σ H Q ⟨B, O, ow, env, re, po⟩ => ?_
  refine ⟨re.tabs, fun H1 eN T1 => ?_⟩
  have s1 : Sm t.K.T H H1 := ⟨fun b o n h => eN b o h n, fun _ => T1⟩
  refine ⟨B, O, ow, env, re.same s1, ?_⟩
  unfold eHow at po
  cases q : m env with
  | ok r =>
    obtain ⟨fr, d⟩ := r
    simp only [q] at po
    exact fun v H2 s2 rv => po (.str "told") H2 (s1.trans s2) (.str _)
  | no => simp only [q] at po; exact po.elim
  | ex n a' =>
    simp only [q] at po
    cases ql : f n a' with
    | none => simp only [ql] at po; exact po.elim
    | some d =>
      simp only [ql] at po
      intro C dx H' s2 hx
      obtain ⟨e1, e2⟩ := hx
      refine ⟨n, C, a', d, rfl, by rw [← hmg]; exact e1, ?_, ql, s2.tabs T1, fun v H'' s3 rv => po v H'' ((s1.trans s2).trans s3) ?_⟩
      · cases a' with
        | none => exact e2
        | some d' => rw [hK] at e2; exact e2
      · have rv' : Rp t.K.K H'' Nob v d := by rw [hK]; exact rv
        exact Rp.free (hlf n a' d ql) rv'
end
theorem pss_no {X : Cx} {t : Ctx} {ss : List Stmt} : PSs X ss (sP t fun _ => .no) := ⟨fun _ _ _ _ _ _ h => by
  obtain ⟨_, _, _, _, _, z⟩ := h
  exact z.elim⟩
theorem kit_same {K : PySem.W.Frag} {D : Addr} : PySem.W.kitOne K (.ref D) (.ref D) = some true := by
  unfold PySem.W.kitOne
  rw [if_pos (by simp)]
theorem kit_other {K : PySem.W.Frag} {D C : Addr} (h : PySem.W.hasDictIn K C = true) (t : PySem.W.typeIn K (.ref C) = some (.type "type")) (q : PySem.W.subIn K (.ref D) (.ref C) = some false) (q2 : PySem.W.subIn K (.ref D) (.ref D) = some true) : PySem.W.kitOne K (.ref D) (.ref C) = some false := by
  unfold PySem.W.kitOne
  have ne : (Value.ref D == Value.ref C) ≠ true := fun z => by
    have e : D = C := by simpa using z
    subst e
    rw [q2] at q
    cases q
  rw [if_neg ne]
  obtain ⟨cd, hc, _⟩ := PySem.W.any_some h
  have e2 : ((PySem.W.clsIn K C).isSome && PySem.W.typeIn K (.ref C) == some (.type "type")) = true := by rw [hc, t]; rfl
  show (if ((PySem.W.clsIn K C).isSome && PySem.W.typeIn K (.ref C) == some (.type "type")) = true then PySem.W.subIn K (.ref D) (.ref C) else none) = some false
  rw [if_pos e2]
  exact q
theorem kit_ve {K : PySem.W.Frag} {D : Addr} (q : PySem.W.subIn K (.ref D) (.type "ValueError") = some true) : PySem.W.kitOne K (.ref D) (.type "ValueError") = some true := by
  unfold PySem.W.kitOne
  rw [if_neg (by simp)]
  show (if PySem.W.kitMeta "ValueError" = true then PySem.W.subIn K (.ref D) (.type "ValueError") else none) = some true
  rw [if_pos (by decide +kernel)]
  exact q
theorem kit_two {K : PySem.W.Frag} {D C C2 : Addr} (h : PySem.W.kitOne K (.ref D) (.ref C) = some false) (h2 : PySem.W.kitOne K (.ref D) (.ref C2) = some false) : PySem.W.kitAny K (.ref D) [.ref C, .ref C2] = some false :=
  kitAny_cons h (fun _ => kitAny_cons h2 (fun _ => kitAny_nil) (fun z => nomatch z)) (fun z => nomatch z)
open L2H in
theorem roomH_mark {k : Nat} {A : Around} {env : PySem.Env} {v : Option Value} (r : Room (k + 2) A) : RoomH (k + 1) ((A.deeper env).mark v) := ⟨(r.deeper env).dp, (r.deeper env).un⟩
/-- the table of a def is empty, its code object is such a one -/
def DefTab (K : PySem.W.Frag) (mg : Str → Option Value) (x : Str) (h : Heap) : Prop := ∀ (f c P : Addr) (o : Obj) (fd : FuncData) (e : Value) (dd : Option Addr) (vs : Array Value) (sl : Array (Option Value)), mg x = some (.ref f) → K.lookup f = some o → o.data = .func fd → fd.code = .ref c →
  K.lookup c = some ⟨e, dd, .fields vs, sl⟩ → vs[11]? = some (.ref P) → h.get? P = some { cls := .none, data := .fields #[] } ∧ PySem.W.CodeHd h c P
theorem walk_defs {l : PySem.W.OpenLaw} {n k : Nat} {q : Program} {loose : List Str} {XP : (Str → Option Value) → Heap → Prop} {YP : World → Heap → Prop} {d : DefRec} {K : Params → PySem.W.Frag} {CX : World → CXT} {x : Str} (xs : List Str)
    (hn : l.most = some n) (hn2 : n ≤ sizeLine) (hdf : d.params.defaults = []) (hr : Room k callerA) (hrec : ∀ y ∈ xs, ((recsOf q).any fun e => e.name == y) = true) (hY : ∀ (w : World) (h : Heap), YP w h → (K w.params).In h)
    (F : ∀ (w : World) (mg : Str → Option Value) (fa : Addr) (h : Heap), YP w h → (K w.params).In h → h.Ns mainGlobals mg → mg d.name = some (.ref fa) → (∀ y ∈ xs, DefTab (K w.params) mg y h) → LamX.LawAtS l w (K w.params) (CX w) k n x mg fa h)
    (hCX : ∀ (w : World) (H : Hp) (s : Shared) (e : Value) (s' : Shared), CX w [] H s (fun _ _ _ => False) e s' → False) :
    PySem.W.WalkO q loose XP YP l.row.toRowW d [] (fun f vs => PySem.call f vs) := by
  refine Att.attach_callB hn hdf fun w s₀ s₁ mg mb fa o pm cd doc a vs ns G Y ho hd hcd hmg hobj hints hlen hbits hg => ?_
  have inK := hY w _ Y
  have tabs : ∀ y ∈ xs, DefTab (K w.params) mg y s₁.heap := fun y hy f c P o1 fd1 e1 dd1 vs1 sl1 k0 k1 k2 k3 k4 k5 => by
    obtain ⟨dy, my, ny⟩ := List.any_eq_true.mp (hrec y hy)
    have ey : dy.name = y := beq_iff_eq.mp ny
    obtain ⟨f2, o2, fd2, c2, P2, g1, g2, g3, g4, g5, g6⟩ := G.T.tab dy my
    rw [ey, k0] at g1
    cases g1
    have r1 := inK _ _ k1
    rw [r1] at g2
    cases g2
    rw [k2] at g3
    cases g3
    rw [k3] at g4
    cases g4
    have cd := PySem.W.CodeHd.of g5 g6
    obtain ⟨⟨oc, vc, e1', _, e3, e4⟩, hP⟩ := g6
    have r2 := inK _ _ k4
    rw [r2] at e1'
    cases e1'
    cases e3
    rw [k5] at e4
    cases e4
    exact ⟨hP, cd⟩
  obtain ⟨fd, cs, sp, hT, nT, C, hb, hsp, hF⟩ := F w mg fa _ Y inK G.T.g hmg tabs
  exact LamX.law_callTs inK G.T.g G.T.b G.T.builtins G.T.nolimit hg hT nT C G.T.bmain hobj hints (Nat.le_trans hlen hn2) hr hF hb (fun H hH hS => hsp H a ns hlen hbits hH hS) fun H e s' => hCX w H s₁ e s'
theorem eIsP_raw {i : Nat} {a : Addr} {dx : Option Addr} {xv : V} {b : Bool} {env : Env} {fr : Bool} (h : env[i]? = some (some (fr, .raw a dx xv))) : eIsP i a dx b env = .ok (false, .bl b) := by
  unfold eIsP
  rw [h]
  exact if_pos ⟨rfl, rfl⟩
theorem eKnd_raw {i : Nat} {a : Addr} {dx : Option Addr} {xv : V} {d : D} {env : Env} {fr : Bool} (h : env[i]? = some (some (fr, .raw a dx xv))) : eKnd i a dx d env = .ok (false, d) := by
  unfold eKnd
  rw [h]
  exact if_pos ⟨rfl, rfl⟩
theorem eAt_raw {i : Nat} {a x : Addr} {xv : V} {d : D} {env : Env} {fr : Bool} (h : env[i]? = some (some (fr, .raw a (some x) xv))) (hv : ofV xv = some d) : eAt i a (some x) env = .ok (false, d) := by
  unfold eAt
  rw [h]
  show (if a = a ∧ some x = some x then (match ofV xv with
      | some d => (Rs.ok (false, d) : RD)
      | none => .no) else .no) = _
  rw [if_pos ⟨rfl, rfl⟩, hv]
/-- the def that tells a class, or a class and a field -/
theorem hw_law_how (ae : Addr) (dx : Option Addr) (xv : V) (d : D) : mSeq (mIf (tE (eIsP 1 ae dx false)) (fun _ => .no) mNil) (mRet (eKnd 1 ae dx d)) [none, some (false, .raw ae dx xv)] = .rt false d := by
  simp only [mSeq, mIf, tE, eIsP_raw (env := [none, some (false, .raw ae dx xv)]) (i := 1) rfl, Rs.bind_ok, tB, mNil, mRet, mOf]
  rw [if_neg Bool.false_ne_true]
  simp only [eKnd_raw (env := [none, some (false, .raw ae dx xv)]) (i := 1) rfl]
theorem hw_law_how2 (ae x : Addr) (xv : V) (d e : D) (hv : ofV xv = some e) (r : Env → Out) : mSeq (mIf (tE (eIsP 1 ae (some x) true)) (mRet (eTup (aCons (eKnd 1 ae (some x) d) (aCons (eAt 1 ae (some x)) aNil)))) mNil) r [none, some (false, .raw ae (some x) xv)] = .rt false (.tup [d, e]) := by
  have h2 : (2 : Nat) ≤ sizeLine := by rw [sizeLine_eq]; decide
  simp only [mSeq, mIf, tE, eIsP_raw (env := [none, some (false, .raw ae (some x) xv)]) (i := 1) rfl, Rs.bind_ok, tB, mNil, mRet, mOf, eTup, aCons, aNil, eKnd_raw (env := [none, some (false, .raw ae (some x) xv)]) (i := 1) rfl, eAt_raw (env := [none, some (false, .raw ae (some x) xv)]) (i := 1) rfl hv]
  rw [if_pos trivial, if_pos (by exact h2)]
theorem _root_.L2H.RoomH.units {k : Nat} {A : Around} (r : L2H.RoomH k A) : A.units + 64 < cLine := by
  have := r.un
  omega
/-! tables of what is told -/
def howT (ks fs : List (Str × Str)) : HowT := fun n a => match a with
  | none => (ks.lookup n).map D.str
  | some d => if atD d = true then (fs.lookup n).map fun k => .tup [.str k, d] else none
/-- .. the field is not told -/
def howS (ks fs : List (Str × Str)) : HowT := fun n a => match a with
  | none => (ks.lookup n).map D.str
  | some d => if atD d = true then (fs.lookup n).map D.str else none
theorem howT_inv {ks fs : List (Str × Str)} {n : Str} {b : Option D} {d : D} (h : howT ks fs n b = some d) : (∃ k, b = none ∧ (n, k) ∈ ks ∧ d = .str k) ∨ ∃ k e, b = some e ∧ atD e = true ∧ (n, k) ∈ fs ∧ d = .tup [.str k, e] := by
  cases b with
  | none =>
    obtain ⟨k, h1, h2⟩ := Option.map_eq_some_iff.mp (show (ks.lookup n).map D.str = some d from h)
    exact .inl ⟨k, rfl, PySem.mem_of_lookup h1, h2.symm⟩
  | some e =>
    have h' : (if atD e = true then (fs.lookup n).map fun k => D.tup [.str k, e] else none) = some d := h
    by_cases a : atD e = true
    · rw [if_pos a] at h'
      obtain ⟨k, h1, h2⟩ := Option.map_eq_some_iff.mp h'
      exact .inr ⟨k, e, rfl, a, PySem.mem_of_lookup h1, h2.symm⟩
    · rw [if_neg a] at h'; cases h'
theorem howS_inv {ks fs : List (Str × Str)} {n : Str} {b : Option D} {d : D} (h : howS ks fs n b = some d) : (∃ k, b = none ∧ (n, k) ∈ ks ∧ d = .str k) ∨ ∃ k e, b = some e ∧ atD e = true ∧ (n, k) ∈ fs ∧ d = .str k := by
  cases b with
  | none =>
    obtain ⟨k, h1, h2⟩ := Option.map_eq_some_iff.mp (show (ks.lookup n).map D.str = some d from h)
    exact .inl ⟨k, rfl, PySem.mem_of_lookup h1, h2.symm⟩
  | some e =>
    have h' : (if atD e = true then (fs.lookup n).map D.str else none) = some d := h
    by_cases a : atD e = true
    · rw [if_pos a] at h'
      obtain ⟨k, h1, h2⟩ := Option.map_eq_some_iff.mp h'
      exact .inr ⟨k, e, rfl, a, PySem.mem_of_lookup h1, h2.symm⟩
    · rw [if_neg a] at h'; cases h'
theorem atD_lf {d : D} (h : atD d = true) : lf d = true := by
  cases d <;> first | rfl | (simp [atD] at h)
theorem howT_lf {ks fs : List (Str × Str)} : ∀ n b d, howT ks fs n b = some d → lf d = true := fun n b d h => by
  rcases howT_inv h with ⟨k, _, _, rfl⟩ | ⟨k, e, _, a, _, rfl⟩
  · rfl
  · show (lf (D.str k) && (lf e && true)) = true
    rw [atD_lf a]; rfl
theorem howS_lf {ks fs : List (Str × Str)} : ∀ n b d, howS ks fs n b = some d → lf d = true := fun n b d h => by
  rcases howS_inv h with ⟨k, _, _, rfl⟩ | ⟨k, e, _, a, _, rfl⟩ <;> rfl
theorem howT_at {ks fs : List (Str × Str)} : ∀ n d r, howT ks fs n (some d) = some r → atD d = true := fun n d r h => by
  rcases howT_inv h with ⟨k, z, _⟩ | ⟨k, e, z, a, _⟩
  · cases z
  · cases z; exact a
theorem howS_at {ks fs : List (Str × Str)} : ∀ n d r, howS ks fs n (some d) = some r → atD d = true := fun n d r h => by
  rcases howS_inv h with ⟨k, z, _⟩ | ⟨k, e, z, a, _⟩
  · cases z
  · cases z; exact a
theorem kit_up {K : PySem.W.Frag} {D C : Addr} (h : PySem.W.hasDictIn K C = true) (t : PySem.W.typeIn K (.ref C) = some (.type "type")) (q : PySem.W.subIn K (.ref D) (.ref C) = some true) : PySem.W.kitOne K (.ref D) (.ref C) = some true := by
  by_cases e : D = C
  · subst e; exact kit_same
  · unfold PySem.W.kitOne
    rw [if_neg (by simpa using e)]
    obtain ⟨cd, hc, _⟩ := PySem.W.any_some h
    have e2 : ((PySem.W.clsIn K C).isSome && PySem.W.typeIn K (.ref C) == some (.type "type")) = true := by rw [hc, t]; rfl
    show (if ((PySem.W.clsIn K C).isSome && PySem.W.typeIn K (.ref C) == some (.type "type")) = true then PySem.W.subIn K (.ref D) (.ref C) else none) = some true
    rw [if_pos e2]
    exact q
theorem kit_two1 {K : PySem.W.Frag} {D C C2 : Addr} (h : PySem.W.kitOne K (.ref D) (.ref C) = some true) : PySem.W.kitAny K (.ref D) [.ref C, .ref C2] = some true :=
  kitAny_cons h (fun z => nomatch z) (fun _ => rfl)
theorem kit_two2 {K : PySem.W.Frag} {D C C2 : Addr} (h : PySem.W.kitOne K (.ref D) (.ref C) = some false) (h2 : PySem.W.kitOne K (.ref D) (.ref C2) = some true) : PySem.W.kitAny K (.ref D) [.ref C, .ref C2] = some true :=
  kitAny_cons h (fun _ => kitAny_cons h2 (fun z => nomatch z) (fun _ => rfl)) (fun z => nomatch z)
/-- the suite of a clause of the try that stands second in a def -/
def clauseBody (st : Stmt) (i : Nat) : List Stmt := match L2.defBody st with
  | _ :: Stmt.Try _ hs _ _ _ :: _ => match hs.drop i with
    | ExceptHandler.ExceptHandler _ _ b _ :: _ => b
    | _ => []
  | _ => []
end S

/-! max of a list, of a tuple of numbers -/
namespace S
open PySem PySem.Spec PyProof.Rows L2
section
variable {prog : Program} {w : World} {A : Around} {E : Value → Shared → Prop} {s : Shared} {l : Addr} {its : List Value} {ns : List Int} {Q : Value → Shared → Prop}
theorem max_tupI {xs : Array (Int × Tok)} (hd : A.handled = none) (ht : s.heap.IsTuple l (intItems xs)) (ne : 0 < xs.size)
    (k : ∀ v h2 tk, (intItems xs)[argBest (fun i j => decide (numAt xs i > numAt xs j)) (xs.size - 1)]? = some v → (∀ b o, s.heap.get? b = some o → h2.get? b = some o) → Q v { s with heap := h2, toks := tk }) :
    wpAny (model prog w) A (call (.builtin "max") [.ref l]) Q E s := by
  have lt : l < s.heap.objs.size := by
    obtain ⟨_, g, _⟩ := ht
    exact Heap.lt_size g
  refine call_max_walk (wpAny_pyIter_tuple ht ?_)
  refine ⟨_, [_, l], [_], _, _, _, _, rfl, Walks.tuple (A := A.in1) hd _ l (Nat.ne_of_lt lt) (intItems xs), ⟨⟨_, Heap.get?_push_size _ rfl, rfl, rfl⟩, ht.push _⟩, fun c hc => ?_, by simpa [intItems] using ne, CmpOf.ints_gt (numAt xs) (fun _ _ => intItems_at), fun v h2 tk hP hk => ?_⟩
  · show c < (s.heap.push _).objs.size
    rw [Heap.size_push]
    simp only [List.mem_cons, List.mem_nil_iff, or_false] at hc
    rcases hc with z | z
    · rw [z]; exact Nat.lt_succ_self _
    · rw [z]; exact Nat.lt_succ_of_lt lt
  · refine k v h2 tk (by simpa [intItems] using hP) fun b o g => hk b o (fun m => ?_) (Heap.get?_push_of_some _ g)
    have lb := Heap.lt_size g
    simp only [List.mem_cons, List.mem_nil_iff, or_false] at m
    rw [m] at lb
    exact Nat.lt_irrefl _ lb
theorem max_tupR (hd : A.handled = none) (ht : s.heap.IsTuple l its.toArray) (hi : IntsAre its ns) (ne : 0 < ns.length)
    (k : ∀ h2 tk M t2, (∀ b o, s.heap.get? b = some o → h2.get? b = some o) → M ∈ ns → (∀ a ∈ ns, a ≤ M) → Q (.int M t2) { s with heap := h2, toks := tk }) : wpAny (model prog w) A (call (.builtin "max") [.ref l]) Q E s := by
  obtain ⟨xs, e⟩ := hi.allInts.items
  have hn : numsOf (intItems xs).toList = ns := by
    rw [← e]
    exact hi.numsOf
  rw [nums_intItems] at hn
  subst hn
  rw [e] at ht
  have sz : 0 < xs.size := by simpa using ne
  refine max_tupI hd ht sz fun v h2 tk hv hk => ?_
  obtain ⟨t2, ev⟩ := intItems_at hv
  subst ev
  obtain ⟨b1, b2⟩ := argBest_gt (numAt xs) (xs.size - 1)
  refine k h2 tk _ t2 hk ?_ fun a ha => ?_
  · rw [numAt_eq]
    exact PySem.getD_mem (by simp only [List.length_map, Array.length_toList]; omega)
  · obtain ⟨j, hj, ej⟩ := mem_getD ha
    subst ej
    simp only [List.length_map, Array.length_toList] at hj
    rw [← numAt_eq]
    exact b2 j (by omega)
end
def rMaxA (K : PySem.W.Frag) : List V → Hp → VK → Prop := fun vs H Q => ∃ (a : Addr) (ns : List Int), vs = [V.ref a] ∧ SqT K H a (ns.map V.int) ∧ 0 < ns.length ∧ ∀ m, m ∈ ns → (∀ y, y ∈ ns → y ≤ m) → Q (.int m) H
theorem cr_maxT {X : Cx} (hc : X.calm = true) : CallR X (.builtin "max") (rMaxA X.K) := fun pins s σ H vs us Q I r h => by
  obtain ⟨a, ns, e, hs, ne, q⟩ := h
  subst e
  obtain ⟨its, rv, hl, _⟩ := I.tuple hs
  rw [Vals.ref1 r]
  exact max_tupR (I.ok.hd hc) hl rv.ints ne fun h2 tk m t2 hk h1 h3 => ⟨.int m, H, I.kept hk, ⟨_, rfl⟩, q m h1 h3⟩
def maxI : List Int → Int
  | [] => 0
  | [n] => n
  | n :: ns => if maxI ns ≤ n then n else maxI ns
theorem maxI_mem : ∀ {ns : List Int}, ns ≠ [] → maxI ns ∈ ns
  | [], h => absurd rfl h
  | [n], _ => by simp [maxI]
  | n :: m :: ns, _ => by
    unfold maxI
    split
    · simp
    · exact List.mem_cons_of_mem _ (maxI_mem (by simp))
theorem maxI_le : ∀ {ns : List Int} {y : Int}, y ∈ ns → y ≤ maxI ns
  | [n], y, h => by simp at h; simp [maxI, h]
  | n :: m :: ns, y, h => by
    have ih : ∀ z ∈ m :: ns, z ≤ maxI (m :: ns) := fun z hz => maxI_le hz
    unfold maxI
    rcases List.mem_cons.mp h with e | h
    · subst e
      split
      · exact Int.le_refl _
      · omega
    · have := ih y h
      split
      · omega
      · exact this
theorem maxI_eq {ns : List Int} {m : Int} (h1 : m ∈ ns) (h2 : ∀ y ∈ ns, y ≤ m) : m = maxI ns := by
  have a := maxI_le h1
  have b := h2 _ (maxI_mem (fun z => by rw [z] at h1; cases h1))
  omega
theorem maxI_le_iff {ns : List Int} {k : Int} (h : ns ≠ []) : maxI ns ≤ k ↔ ∀ n ∈ ns, n ≤ k := ⟨fun q n hn => Int.le_trans (maxI_le hn) q, fun q => q _ (maxI_mem h)⟩
def fMaxL (ds : List D) : RD := match ds with
  | [.lst xs] => match intsOf xs with
    | some ns => if 0 < ns.length then i2 (maxI ns) else .no
    | none => .no
  | [.tup xs] => match intsOf xs with
    | some ns => if 0 < ns.length then i2 (maxI ns) else .no
    | none => .no
  | _ => .no
theorem call_maxL {X : Cx} (hc : X.calm = true) : CallR X (.builtin "max") (fun xs H Q => rMax X.K xs H Q ∨ rMaxA X.K xs H Q) := fun pins s σ H xs us Q I r h => by
  rcases h with h | h
  · exact cr_max hc pins s σ H xs us Q I r h
  · exact cr_maxT hc pins s σ H xs us Q I r h
theorem ok_maxL {t : Ctx} : GOkN t (fun xs H Q => rMax t.K xs H Q ∨ rMaxA t.K xs H Q) fMaxL := fun H O xs ds Q hO r po => by
  unfold fMaxL at po
  split at po
  · obtain ⟨x, rfl, r1⟩ := rpl1 r
    split at po
    · rename_i ns q
      split at po
      · rename_i hl
        cases r1 with
        | lst h1 h2 h3 => exact .inl ⟨_, _, rfl, .inl (.inl (by rw [← ints_of q h3]; exact h1)), hl, fun m m1 m2 => by rw [maxI_eq m1 m2]; exact post_i po⟩
      · exact po.elim
    · exact po.elim
  · obtain ⟨x, rfl, r1⟩ := rpl1 r
    split at po
    · rename_i ns q
      split at po
      · rename_i hl
        cases r1 with
        | tup h1 h3 => exact .inr ⟨_, _, rfl, by rw [← ints_of q h3]; exact h1, hl, fun m m1 m2 => by rw [maxI_eq m1 m2]; exact post_i po⟩
      · exact po.elim
    · exact po.elim
  · exact po.elim
/-! list(range(..)) -/
theorem rgV_rp {K : PySem.W.Frag} {H : Hp} {O : Addr → Prop} {a b : Int} : RpL K H O (rgV a b) (rangeI a (b - a).toNat) := by
  unfold rgV rangeI
  generalize List.range (b - a).toNat = l
  induction l with
  | nil => exact .nil
  | cons x r ih => exact .cons (.int _) ih
theorem lfL_range {a : Int} {n : Nat} : lfL (rangeI a n) = true := by
  unfold rangeI
  generalize List.range n = l
  induction l with
  | nil => rfl
  | cons x r ih => exact ih
open Classical in
/-- the choice keeps whnf from running into great numbers -/
noncomputable def eLr1 (m : Env → RD) : Env → RD := fun env => (m env).bind fun x => match x.2 with
  | .int n => if -(2 ^ 62) ≤ n ∧ n < 2 ^ 62 ∧ (n - 0).toNat ≤ 2 ^ 24 then .ok (true, .lst (rangeI 0 (n - 0).toNat)) else .no
  | _ => .no
open Classical in
noncomputable def eLr2 (m k : Env → RD) : Env → RD := fun env => (m env).bind fun x => (k env).bind fun y => match x.2, y.2 with
  | .int i, .int j => if -(2 ^ 62) ≤ i ∧ i < 2 ^ 62 ∧ -(2 ^ 62) ≤ j ∧ j < 2 ^ 62 ∧ (j - i).toNat ≤ 2 ^ 24 then .ok (true, .lst (rangeI i (j - i).toNat)) else .no
  | _, _ => .no
theorem rg_done {t : Ctx} {H : Hp} {O : Addr → Prop} {a b : Int} {Q : VK} (hO : OD O H) (po : Post t H O (.ok (true, .lst (rangeI a (b - a).toNat))) Q) : ∀ p, H p = none → Q (.ref p) (upd H p (.lst (rgV a b))) :=
  newLst hO rgV_rp (by rw [lfL_range]; exact po)
theorem se_lr1 {X : Cx} {t : Ctx} {a : Expr} {R : List Nat} {m : Env → RD} {p p2 pos pos2 : Pos} (hc : X.calm = true) (hg : Gl X "list") (hm : X.mg "list" = none) (hg' : Gl X "range") (hm' : X.mg "range" = none) (h : PE X a (eP t R m))
    (na : starEach [a] X.env = (false, eval a X.env) :: starEach [] X.env := by rfl) (na2 : starEach [.Call (.Name "range" p2) [a] [] pos2] X.env = (false, eval (.Call (.Name "range" p2) [a] [] pos2) X.env) :: starEach [] X.env := by rfl) :
    PE X (.Call (.Name "list" p) [.Call (.Name "range" p2) [a] [] pos2] [] pos) (eP t [] (eLr1 m)) := by
  refine (pe_listRg hc hg hm (prg_1 hg' hm' h na) na2).imp fun σ H Q ⟨B, O, ow, env, re, po⟩ => ⟨B, O, ow, env, re, Post.bind1 po fun fr d v H1 _ s1 rv po1 => ?_⟩
  have r := rv.rp re.odx (O' := OwX O R ow) fun _ z => z
  cases d with
  | int n =>
    cases r
    by_cases hn : -(2 ^ 62) ≤ n ∧ n < 2 ^ 62 ∧ (n - 0).toNat ≤ 2 ^ 24
    · simp only [if_pos hn] at po1
      exact ⟨n, rfl, ⟨by omega, by omega, hn.1, hn.2.1, hn.2.2⟩, rg_done (re.same s1).odx po1⟩
    · simp only [if_neg hn] at po1
      exact po1.elim
  | _ => exact po1.elim
theorem se_lr2 {X : Cx} {t : Ctx} {a b : Expr} {R R' : List Nat} {m k : Env → RD} {p p2 pos pos2 : Pos} (hc : X.calm = true) (hg : Gl X "list") (hm : X.mg "list" = none) (hg' : Gl X "range") (hm' : X.mg "range" = none) (h : PE X a (eP t R m)) (h' : PE X b (eP t R' k))
    (na : starEach [a, b] X.env = (false, eval a X.env) :: starEach [b] X.env := by rfl) (nb : starEach [b] X.env = (false, eval b X.env) :: starEach [] X.env := by rfl) (hp : (backTo pos2 (starEach [b] X.env)).any (·.1) = false := by rfl)
    (na2 : starEach [.Call (.Name "range" p2) [a, b] [] pos2] X.env = (false, eval (.Call (.Name "range" p2) [a, b] [] pos2) X.env) :: starEach [] X.env := by rfl) :
    PE X (.Call (.Name "list" p) [.Call (.Name "range" p2) [a, b] [] pos2] [] pos) (eP t [] (eLr2 m k)) := by
  refine (pe_listRg hc hg hm (prg_2 hg' hm' h h' na nb hp) na2).imp fun σ H Q ⟨B, O, ow, env, re, po⟩ => ⟨B, O, ow, env, re, Post.bind1 po fun fr d v H1 _ s1 rv po1 => ?_⟩
  have r := rv.rp re.odx (O' := OwX O R ow) fun _ z => z
  refine ⟨B, O, ow, env, re.same s1, Post.bind1 po1 fun fr2 d2 v2 H2 _ s2 rv2 po2 => ?_⟩
  have r2 := rv2.rp (re.same s1).odx (O' := OwX O R' ow) fun _ z => z
  cases d with
  | int i =>
    cases d2 with
    | int j =>
      cases r
      cases r2
      by_cases hn : -(2 ^ 62) ≤ i ∧ i < 2 ^ 62 ∧ -(2 ^ 62) ≤ j ∧ j < 2 ^ 62 ∧ (j - i).toNat ≤ 2 ^ 24
      · simp only [if_pos hn] at po2
        exact ⟨i, j, rfl, rfl, ⟨hn.1, hn.2.1, hn.2.2.1, hn.2.2.2.1, hn.2.2.2.2⟩, rg_done ((re.same s1).same s2).odx po2⟩
      · simp only [if_neg hn] at po2
        exact po2.elim
    | _ => exact po2.elim
  | _ => cases d2 <;> exact po2.elim
/-! xs[::-1] -/
theorem rpl_rev {K : PySem.W.Frag} {H : Hp} {O : Addr → Prop} : ∀ {vs : List V} {ds : List D}, RpL K H O vs ds → RpL K H O vs.reverse ds.reverse
  | _, _, .nil => .nil
  | _, _, .cons h hs => by
    rw [List.reverse_cons, List.reverse_cons]
    exact (rpl_rev hs).append (.cons h .nil)
def eRev (m : Env → RD) : Env → RD := fun env => (m env).bind fun x => gRev x.2
theorem se_rev1 {X : Cx} {t : Ctx} {e : Expr} {R : List Nat} {m : Env → RD} {k : Nat} {p1 p2 p3 pos : Pos} (hK : t.K.K = X.K) (he : PE X e (eP t R m)) :
    PE X (.Subscript e (.Slice none none (some (.UnaryOp .USub (.Constant (.int 1) k p1) p2)) p3) pos) (eP t R (eRev m)) := by
  refine (pe_revL he).imp fun σ H Q ⟨B, O, ow, env, re, po⟩ => ⟨B, O, ow, env, re, Post.bind1 po fun fr d v H1 _ s1 rv po1 => ?_⟩
  have r := rv.rp re.odx (O' := OwX O R ow) fun _ z => z
  cases r with
  | @lst a xs ds h1 n1 h2 => exact ⟨a, xs, rfl, by rw [← hK]; exact SqL.of h1, newLst (re.same s1).odx (rpl_rev h2) po1⟩
  | _ => exact po1.elim
/-! for x in reversed(xs) -/
def iRevD (m : Env → RD) : Env → Rs (List D) := fun env => (m env).bind fun x => match x.2 with
  | .lst ds => .ok ds.reverse
  | _ => .no
theorem walk_rev {K : PySem.W.Frag} {O : Addr → Prop} {H1 : Hp} {a : Addr} {ds : List D} (r : Rp K H1 O (.ref a) (.lst ds)) :
    ∃ xs, SqL K H1 a xs ∧ WalkOk K O (Itv K a xs.length) H1 ds.reverse := by
  cases r with
  | @lst _ xs _ h h2 hs =>
    have hl := hs.len
    refine ⟨xs, SqL.of h, fun H2 k i hi => ?_, fun H2 k => ?_, fun H2 O' k hO _ i d x H3 e y => ?_⟩
    · rw [List.length_reverse, ← hl] at hi
      exact ⟨hi, xs, xs[xs.length - 1 - i]'(by omega), SqL.of (k.1 _ _ h2 nt_lst h), List.getElem?_eq_getElem _⟩
    · show xs.length ≤ ds.reverse.length
      rw [List.length_reverse]; omega
    · obtain ⟨e1, y⟩ := y
      subst e1
      have hi : i < ds.length := by
        obtain ⟨z, _⟩ := List.getElem?_eq_some_iff.mp e
        simpa using z
      rw [List.getElem?_reverse hi] at e
      obtain ⟨v, h1, h2'⟩ := hs.get e
      have := y xs (SqL.of (k.1 _ _ h2 nt_lst h))
      rw [hl, h1] at this; cases this
      exact ⟨Same.refl _, k.rp hO h2'⟩
theorem si_rev {X : Cx} {t : Ctx} {tg e : Expr} {R : List Nat} {m : Env → RD} {p pos : Pos} (hg : Gl X "reversed") (hm : X.mg "reversed" = none) (hK : t.K.K = X.K) (h : PE X e (eP t R m)) (hs : starEach [e] X.env = [(false, eval e X.env)] := by rfl) :
    PI X tg (.Call (.Name "reversed" p) [e] [] pos) (iP t R (iRevD m)) := by
  refine (pi_reversed hg hm (pa_cons h pa_nil hs) hs).imp fun σ H Q ⟨B, O, ow, env, re, q⟩ => ?_
  refine ⟨B, O, ow, env, re, ?_⟩
  unfold iRevD at q
  cases qm : m env with
  | ok z =>
    obtain ⟨fr, d⟩ := z
    rw [qm] at q
    intro v H1 s rv
    have r := rv.rp re.odx (O' := OwX O R ow) fun _ z => z
    cases d with
    | lst ds =>
      simp only [Rs.bind_ok] at q
      have : ∃ a, v = .ref a := by
        cases r with
        | lst _ _ _ => exact ⟨_, rfl⟩
      obtain ⟨a, rfl⟩ := this
      obtain ⟨xs, h1, h2⟩ := walk_rev r
      exact ⟨a, xs, rfl, by rw [← hK]; exact h1, by rw [← hK]; exact q _ H1 s h2⟩
    | _ => exact q.elim
  | ex n a => rw [qm] at q; exact q
  | no => rw [qm] at q; exact q
/-! unpacking a tuple or a list -/
def gTupU (n : Nat) (r : List D → Env → Option Env) : D → Env → Option Env := fun d env => match d with
  | .tup ds => if ds.length = n then r ds env else none
  | .lst ds => if ds.length = n then r ds env else none
  | _ => none
theorem pg_or {X : Cx} {e : Expr} {t t' : TG} (h : PG X e t) (h' : PG X e t') : PG X e (fun v σ H Q => t v σ H Q ∨ t' v σ H Q) :=
  ⟨fun pins s σ H v u Q I r q => q.elim (h.run pins s σ H v u Q I r) (h'.run pins s σ H v u Q I r)⟩
theorem sg_tupU {X : Cx} {t : Ctx} {pos : Pos} {es : List Expr} {k : Nat} {r : List D → Env → Option Env} {n : Nat} {Zs : List Nat} (hK : t.K.K = X.K) (hc : X.calm = true) (h : PGs X es (gsP t Zs r))
    (hn : (assignEach es X.env).length = n := by rfl) (hst : (assignEach es X.env).findIdx? (·.1) = none := by rfl) : PG X (.Tuple es k pos) (gP t Zs (gTupU n r)) := by
  refine (pg_or (pg_tup hc h hn hst) (pg_unl hc h hn hst)).imp fun v σ H Q ⟨B, O, ow, env, d, re, rd, q⟩ => ?_
  unfold gTupU at q
  cases rd with
  | @tup a xs ds h1 h2 =>
    by_cases hl : ds.length = n
    · simp only [if_pos hl] at q
      exact .inl ⟨a, xs, rfl, by rw [← hK]; exact h1, by rw [h2.len]; exact hl, B, O, ow, env, ds, re, h2, q⟩
    · simp only [if_neg hl] at q
  | @lst a xs ds h1 n1 h2 =>
    by_cases hl : ds.length = n
    · simp only [if_pos hl] at q
      exact .inr ⟨a, xs, rfl, by rw [← hK]; exact SqL.of h1, by rw [h2.len]; exact hl, B, O, ow, env, ds, re, h2, q⟩
    · simp only [if_neg hl] at q
  | _ => exact q.elim
/-! what is never reached -/
def mNo : Env → Out := fun _ => .no
def eNo : Env → RD := fun _ => .no
theorem ss_no {X : Cx} {t : Ctx} {s : Stmt} : PS X s (sP t mNo) := ⟨fun _ _ _ _ _ _ ⟨_, _, _, _, _, o⟩ => (show False from o).elim⟩
theorem se_no {X : Cx} {t : Ctx} {e : Expr} : PE X e (eP t [] eNo) := ⟨fun _ _ _ _ _ _ ⟨_, _, _, _, _, o⟩ => (show False from o).elim⟩
end S

/-! d[k], k in d -/
namespace S
open PySem PySem.Spec PyProof.Rows L2
def lookD (kvs : List (Key × D)) (k : Key) : Option D := (kvs.find? fun kv => decide (kv.1 = k)).map (·.2)
def gDget (x y : D) : RD := match x with
  | .dct kvs => match keyOf y with
    | some k => match lookD kvs k with
      | some d => .ok (false, d)
      | none => .no
    | none => .no
  | _ => .no
def gDin (neg : Bool) (y x : D) : RD := match x with
  | .dct kvs => match keyOf y with
    | some k => b2 (if neg then !(lookD kvs k).isSome else (lookD kvs k).isSome)
    | none => .no
  | _ => .no
section
variable {K : PySem.W.Frag} {H : Hp} {O : Addr → Prop}
theorem look_rp {k : Key} : ∀ {vs : List (Key × V)} {ds : List (Key × D)}, RpK K H O vs ds → (match lookD ds k with
    | some d => ∃ v, valV vs k = some v ∧ Rp K H O v d
    | none => valV vs k = none)
  | _, _, .nil => rfl
  | _, _, .cons (k := k') (v := v) (vs := vs) (d := d) (ds := ds) r rs => by
    by_cases e : k' = k
    · have e1 : lookD ((k', d) :: ds) k = some d := by simp [lookD, e]
      rw [e1]
      exact ⟨v, valV_pos (p := (k', v)) e, r⟩
    · have e1 : lookD ((k', d) :: ds) k = lookD ds k := by simp [lookD, e]
      rw [e1, valV_neg (p := (k', v)) e]
      exact look_rp rs
end
section
variable {X : Cx} {t : Ctx} {a b : Expr} {Ra Rb : List Nat} {ma mb : Env → RD} {pos : Pos}
theorem se_dget (hu : X.A.units + 64 < cLine) (ha : PE X a (eP t Ra ma)) (hb : PE X b (eP t Rb mb)) (hs : NoSl b) : PE X (.Subscript a b pos) (eP t (Ra ++ Rb) (eOp gDget ma mb)) :=
  (pe_dget (by omega) ha hb hs).imp fun σ H Q ⟨B, O, ow, env, re, po⟩ => ⟨B, O, ow, env, re, Post.bind1 po fun fr d v H1 _ s1 rv po1 => by
    have re1 := re.same s1
    refine ⟨B, O, ow, env, re1, Post.bind1 po1 fun fr2 d2 v2 H2 _ s2 rv2 po2 => ?_⟩
    have r1 : Rp t.K H2 (OwX O (Ra ++ Rb) ow) v d := (rv.rp re.odx (fun _ z => owx_l z)).same s2
    have r2 : Rp t.K H2 (OwX O (Ra ++ Rb) ow) v2 d2 := rv2.rp re1.odx (fun _ z => owx_r z)
    unfold gDget at po2
    cases r1 with
    | @dct p0 kvs ds h1 h0 h2 =>
      simp only at po2
      cases qk : keyOf d2 with
      | none => simp only [qk] at po2; exact po2.elim
      | some k =>
        simp only [qk] at po2
        have lk := look_rp (k := k) h2
        cases ql : lookD ds k with
        | none => simp only [ql] at po2; exact po2.elim
        | some d' =>
          simp only [ql] at po2 lk
          obtain ⟨w, e1, e2⟩ := lk
          cases key_v r2 qk
          exact ⟨_, w, rfl, by rw [← e1]; exact DGet.k h1, po2.here e2⟩
    | _ => exact po2.elim⟩
theorem din_read {neg : Bool} {σ : L2.St} {H : Hp} {Q : VK} (h : eP t (Ra ++ Rb) (eOp (gDin neg) ma mb) σ H Q) : eP t Ra ma σ H fun y H1 => eP t Rb mb σ H1 fun x H2 => ∃ p o, x = .ref p ∧ DGet H2 p y o ∧ Q (.bl (if neg then !o.isSome else o.isSome)) H2 := by
  obtain ⟨B, O, ow, env, re, po⟩ := h
  refine ⟨B, O, ow, env, re, Post.bind1 po fun fr d v H1 _ s1 rv po1 => ?_⟩
  have re1 := re.same s1
  refine ⟨B, O, ow, env, re1, Post.bind1 po1 fun fr2 d2 v2 H2 _ s2 rv2 po2 => ?_⟩
  have r1 : Rp t.K H2 (OwX O (Ra ++ Rb) ow) v d := (rv.rp re.odx (fun _ z => owx_l z)).same s2
  have r2 : Rp t.K H2 (OwX O (Ra ++ Rb) ow) v2 d2 := rv2.rp re1.odx (fun _ z => owx_r z)
  unfold gDin at po2
  cases r2 with
  | @dct p0 kvs ds h1 h0 h2 =>
    simp only at po2
    cases qk : keyOf d with
    | none => simp only [qk] at po2; exact po2.elim
    | some k =>
      simp only [qk] at po2
      have lk := look_rp (k := k) h2
      cases key_v r1 qk
      have e : (valV kvs k).isSome = (lookD ds k).isSome := by
        cases ql : lookD ds k with
        | none => simp only [ql] at lk; rw [lk]; rfl
        | some d' =>
          simp only [ql] at lk
          obtain ⟨w, e1, _⟩ := lk
          rw [e1]; rfl
      exact ⟨_, _, rfl, DGet.k h1, by rw [e]; exact post_b po2⟩
  | _ => exact po2.elim
theorem sc_din (hu : X.A.units + 64 < cLine) (ha : PE X a (eP t Ra ma)) (hb : PE X b (eP t Rb mb)) : PC X .In a b (eP t (Ra ++ Rb) (eOp (gDin false) ma mb)) := PC.imp' (pc_din (by omega) ha hb) fun _ _ _ h => din_read h
theorem sc_dnin (hu : X.A.units + 64 < cLine) (ha : PE X a (eP t Ra ma)) (hb : PE X b (eP t Rb mb)) : PC X .NotIn a b (eP t (Ra ++ Rb) (eOp (gDin true) ma mb)) := PC.imp' (pc_dnotin (by omega) ha hb) fun _ _ _ h => din_read h
theorem se_din (hu : X.A.units + 64 < cLine) (ha : PE X a (eP t Ra ma)) (hb : PE X b (eP t Rb mb)) (hm : behindInMarks .In b = false) : PE X (.Compare a [.In] [b] pos) (eP t (Ra ++ Rb) (eOp (gDin false) ma mb)) := pe_cmp (sc_din hu ha hb) hm
theorem se_dnin (hu : X.A.units + 64 < cLine) (ha : PE X a (eP t Ra ma)) (hb : PE X b (eP t Rb mb)) (hm : behindInMarks .NotIn b = false) : PE X (.Compare a [.NotIn] [b] pos) (eP t (Ra ++ Rb) (eOp (gDin true) ma mb)) := pe_cmp (sc_dnin hu ha hb) hm
theorem st_din (hu : X.A.units + 64 < cLine) (ha : PE X a (eP t Ra ma)) (hb : PE X b (eP t Rb mb)) (hm : behindInMarks .In b = false) : PT X (.Compare a [.In] [b] pos) (tP t (tE (eOp (gDin false) ma mb))) := (pt_cmp (sc_din hu ha hb) hm).imp fun _ _ _ h => te_read (fun _ q => q) h
theorem st_dnin (hu : X.A.units + 64 < cLine) (ha : PE X a (eP t Ra ma)) (hb : PE X b (eP t Rb mb)) (hm : behindInMarks .NotIn b = false) : PT X (.Compare a [.NotIn] [b] pos) (tP t (tE (eOp (gDin true) ma mb))) := (pt_cmp (sc_dnin hu ha hb) hm).imp fun _ _ _ h => te_read (fun _ q => q) h
end
end S

/-! raise C(e): an own class whose __init__ sets one field -/
namespace S
open PySem PySem.Spec PyProof.Rows L2
/-- what such a class must have -/
structure ExI (K : PySem.W.Frag) (qual : Str) (st : Stmt) (C fI : Addr) (fd : FuncData) : Prop where
  T : OexC K C
  iC : PySem.W.findIn K (.ref C) "__init__" = some (some (.ref fI))
  tI : PySem.W.typeIn K (.ref fI) = some (.type "function")
  no : PySem.W.findIn K (.ref C) "at" = some none
  F : FunD K "__init__" qual (defArgs st) (defBody st) (defScope st) [.non] [] fI fd
  b1 : Binds K fd ["self", "at"] []
  b0 : ∃ ds, Vals [V.non] ds ∧ Binds K fd ["self", "at"] ds
def spI (C : Addr) : Sp := fun vs H Q _ => ∃ a v, vs = [.ref a, v] ∧ H a = some (exo a C none) ∧ ∀ dx, H dx = none → dx ≠ a → Q .non (upd (upd H dx (exd dx [("at", v)])) a (exo a C (some dx)))
theorem init_ok {P : Program} {w : World} {K : PySem.W.Frag} {mg : Str → Option Value} {base : Heap} {CX : CXT} {qual : Str} {st : Stmt} {C fI : Addr} {fd : FuncData} (h : ExI K qual st C fI fd) (S : FnScope ["self", "at"] ["self", "at"] (defScope st))
    (hb : ∃ p1 p2 p3 p4, defBody st = [.Assign [.Attribute (.Name "self" p1) "at" p2] (.Name "at" p3) p4]) (l1 : (defScope st).names.lookup ("self" : Str) = some .local) (l2 : (defScope st).names.lookup ("at" : Str) = some .local) : FnOk P w K mg base CX 1 fI fd ["self", "at"] (spI C) := by
  refine h.F.ok S (fun vs H Q E q => ?_) (fun cdv A outer s H vs Q E hr q => ?_)
  · obtain ⟨a, v, rfl, _⟩ := q
    rfl
  · obtain ⟨a, v, rfl, h1, h2⟩ := q
    obtain ⟨p1, p2, p3, p4, e⟩ := hb
    rw [e]
    refine ⟨_, pss_one (ps_ost (pe_var (i := 0) rfl (.inl l1)) (pe_var (i := 1) rfl (.inl l2))), ?_⟩
    exact ⟨v, rfl, .ref a, rfl, a, C, rfl, h.T, h.no, .inl ⟨h1, fun dx n ne => h2 dx n ne⟩⟩
section
variable {X : Cx} {t : Ctx} {R : List Nat} {m : Env → RD} {x qual : Str} {st : Stmt} {C fI : Addr} {fd : FuncData} {e : Expr} {p pos pos' : Pos}
/-- the heap behind such a call -/
theorem made_sm {T : List (Addr × Str)} {H H2 : Hp} {a d : Addr} {fs : List (Str × V)} (ha : H a = none) (hd : H d = none) (hda : d ≠ a) (h : ∀ b, b ≠ a → b ≠ d → H2 b = H b) : Sm T H (upd (del H2 a) d (.xd fs)) :=
  sm_of fun b u q => by rw [upd_ne (ne_of_none q hd), del_ne (ne_of_none q ha), h b (ne_of_none q ha) (ne_of_none q hd)]; exact q
def mRaiseI (n : Str) (m : Env → RD) : Env → Out := fun env => match m env with
  | .ok (_, d) => if atD d = true then .ex n (some d) else .no
  | .ex n a => .ex n a
  | .no => .no
theorem init_end {H : Hp} {v : V} {Q : XK} {T : List (Addr × Str)} (q : ∀ dx H', Sm T H H' → H' dx = some (.xd [("at", v)]) → Q (.ref C) (some dx) H') : ∀ a, H a = none →
    spI C [.ref a, v] (upd H a (exo a C none)) (fun u H2 => u = .non ∧ ∃ (d : Addr) (fs : List (Str × V)), H2 a = some (exo a C (some d)) ∧ H2 d = some (exd d fs) ∧ H d = none ∧ Q (.ref C) (some d) (upd (del H2 a) d (.xd fs))) (fun _ _ _ => False) := fun a ha => by
  refine ⟨a, v, rfl, upd_same, fun dx hdx ne => ⟨rfl, dx, _, upd_same, by rw [upd_ne ne]; exact upd_same, ?_, ?_⟩⟩
  · rw [upd_ne ne] at hdx; exact hdx
  · rw [upd_ne ne] at hdx
    refine q dx _ (made_sm ha hdx ne fun b n1 n2 => ?_) upd_same
    rw [upd_ne n1, upd_ne n2, upd_ne n1]
theorem ss_raiseI (hmg : t.mg = X.mg) (hK : t.K.K = X.K) (hc : X.calm = true) (tk : Takes X (fun cls d _ H => t.E cls d H)) (h : ExI X.K qual st C fI fd) (F1 : FnOk X.prog X.w X.K X.mg X.base (L2.CX X.prog X.w) 1 fI fd ["self", "at"] (spI C)) (hr : Room 2 X.A) (gC : X.mg x = some (.ref C)) (hg : Gl X x)
    (he : PE X e (eP t R m)) (hdb : (x == ("__debug__" : Str)) = false := by decide) (na : starEach [e] X.env = (false, eval e X.env) :: starEach [] X.env := by rfl) (hpl : (backTo pos (starEach [] X.env)).any (·.1) = false := by rfl) :
    PS X (.Raise (some (.Call (.Name x p) [e] [] pos)) none pos') (sP t (mRaiseI x m)) := by
  refine (ps_raise hc tk (pmk_oex h.T h.iC h.tI F1 hr h.b1 .nil passL hg gC (pa_cons he pa_nil na) hdb na hpl)).imp fun D σ H ⟨B, O, ow, env, re, o⟩ => ?_
  refine ⟨B, O, ow, env, re, ?_⟩
  unfold mRaiseI at o
  cases q : m env with
  | no => rw [q] at o; exact o.elim
  | ex n a => rw [q] at o; exact fun C' dx H' s hx => o C' dx H' (re.ext.trans s) hx
  | ok r =>
    obtain ⟨fr, d⟩ := r
    rw [q] at o
    by_cases ha : atD d = true
    · simp only [ha, if_true] at o
      intro v H1 s1 rv
      have hld : lf d = true := by cases d <;> first | rfl | (simp [atD] at ha)
      have rp : Rp t.K.K H1 Nob v d := Rp.free hld (rv.rp re.odx (O' := OwX O R ow) fun _ z => z)
      refine ⟨by show 1 ≤ 1000; decide, fun a ha0 => init_end (v := v) (T := t.K.T) (fun dx H' s2 hx => ?_) a ha0⟩
      refine o C (some dx) H' (re.ext.trans (s1.trans s2)) ⟨by rw [hmg]; exact gC, dx, v, rfl, hx, Rp.free hld (Rp.same s2 rp)⟩
    · simp only [ha, if_false] at o
      exact o.elim
/-- C(), the field by its default -/
theorem pmk_i0 {ds : List Value} (h : ExI X.K qual st C fI fd) (F1 : FnOk X.prog X.w X.K X.mg X.base (L2.CX X.prog X.w) 1 fI fd ["self", "at"] (spI C)) (hr : Room 2 X.A) (hd : Vals [V.non] ds) (hbn : Binds X.K fd ["self", "at"] ds) (gC : X.mg x = some (.ref C)) (hg : Gl X x) (hdb : (x == ("__debug__" : Str)) = false) :
    PMk X (.Call (.Name x p) [] [] pos) (fun σ H Q => ∀ a, H a = none → spI C [.ref a, .non] (upd H a (exo a C none)) (fun v H2 => v = .non ∧ ∃ (d : Addr) (fs : List (Str × V)), H2 a = some (exo a C (some d)) ∧ H2 d = some (exd d fs) ∧ H d = none ∧ Q (.ref C) (some d) (upd (del H2 a) d (.xd fs))) (fun _ _ _ => False)) := by
  intro pins s σ H Q I q0
  obtain ⟨nm, qn, N, bs, bm, sn, sub, ab, col, dd, k0, k1, k2, k3, k5, hC, hbm⟩ := h.T.cls
  refine wpAny_Call_Name_kw (ld_glob I hg gC ?_ hdb)
  refine PySem.W.callWith_K0 I.kIn h.T.kC ?_
  obtain ⟨hp, gs, dr, tk, os⟩ := s
  have top : hp.objs.size ≤ hp.objs.size + 1 := Nat.le_succ _
  have gap : H (hp.objs.size + 1) = none := I.hok.fresh top
  have go := q0 (hp.objs.size + 1) gap
  have old : ∀ b o, hp.get? b = some o → ((hp.push (PySem.W.kdv_tup [])).push (PySem.HandSPX.excO C hp.objs.size)).get? b = some o := fun b o z => Heap.get?_push_of_some _ (Heap.get?_push_of_some _ z)
  have there : ((hp.push (PySem.W.kdv_tup [])).push (PySem.HandSPX.excO C hp.objs.size)).get? (hp.objs.size + 1) = some (PySem.HandSPX.excO C hp.objs.size) := by heap_get
  have J : Inv X pins σ (upd H (hp.objs.size + 1) (exo (hp.objs.size + 1) C none)) ⟨(hp.push (PySem.W.kdv_tup [])).push (PySem.HandSPX.excO C hp.objs.size), gs, dr, tk, os⟩ := I.laid (t' := tk) (a := hp.objs.size + 1) (o := exo (hp.objs.size + 1) C none) old top (exo_ok there)
  have rl : Vals [V.ref (hp.objs.size + 1), V.non] ([Value.ref (hp.objs.size + 1)] ++ ds) := .cons rfl hd
  have ll : ([Value.ref (hp.objs.size + 1)] ++ ds).length = (["self", "at"] : List Str).length := rl.length.symm
  refine wpAny_call (PySem.HandSPX.call_own F.excBase_ValueError (fun Z => PySem.HandSPX.refsVE_contains Z bm hbm) (I.kIn _ _ hC) (PySem.W.looks_findIn I.kIn h.iC) (fun self => PySem.W.bind_fn I.kIn self h.tI) (Nat.zero_le _)
    (codeAny_mono (F1.run _ X.stack _ _ ⟨[Value.ref (hp.objs.size + 1)], []⟩ ([Value.ref (hp.objs.size + 1)] ++ ds) _ _ (fun _ _ _ => False) (hr.make C [] []) (J.env0.make C [] []) (hbn _ [Value.ref (hp.objs.size + 1)] J.kIn ll) rl go) fun r s' hq => ?_))
  cases r with
  | error er => exact (passL (X := X)) pins σ _ _ er s' J hq
  | ok fl =>
    cases fl with
    | ret u =>
      obtain ⟨v, H2, os2, bare2, un2, hok2, rv, ev, d, fs, ea, ed, hd1, q2⟩ := hq
      subst ev
      obtain ⟨h2, g2, d2, t2, os'⟩ := s'
      exact ⟨rv, mk_end (raises_own h.T.exC h.T.tyC) I top old un2 hok2 os2 bare2 ea ed hd1 q2⟩
    | next => exact False.elim hq
    | brk => exact False.elim hq
    | cont => exact False.elim hq
theorem ss_raiseI0 (hmg : t.mg = X.mg) (hc : X.calm = true) (tk : Takes X (fun cls d _ H => t.E cls d H)) (h : ExI X.K qual st C fI fd) (F1 : FnOk X.prog X.w X.K X.mg X.base (L2.CX X.prog X.w) 1 fI fd ["self", "at"] (spI C)) (hr : Room 2 X.A) (gC : X.mg x = some (.ref C)) (hg : Gl X x) (hdb : (x == ("__debug__" : Str)) = false := by decide) :
    PS X (.Raise (some (.Call (.Name x p) [] [] pos)) none pos') (sP t (mRaise x (some .non))) := by
  obtain ⟨ds, hd, hbn⟩ := h.b0
  refine (ps_raise hc tk (pmk_i0 h F1 hr hd hbn gC hg hdb)).imp fun D σ H ⟨B, O, ow, env, re, o⟩ => ?_
  exact fun a ha0 => init_end (v := .non) (T := t.K.T) (fun dx H' s2 hx => o C (some dx) H' (re.ext.trans s2) ⟨by rw [hmg]; exact gC, dx, .non, rfl, hx, .non⟩) a ha0
end
/-- what is bound where the field is handed in, and where it isn't -/
theorem ExI.mk' {K : PySem.W.Frag} {qual : Str} {st : Stmt} {C fI : Addr} {fd : FuncData} (T : OexC K C) (iC : PySem.W.findIn K (.ref C) "__init__" = some (some (.ref fI))) (tI : PySem.W.typeIn K (.ref fI) = some (.type "function")) (no : PySem.W.findIn K (.ref C) "at" = some none)
    (F : FunD K "__init__" qual (defArgs st) (defBody st) (defScope st) [.non] [] fI fd)
    (h1 : ∀ (T : Addr) (kV doc pm : Value) (an : Option Addr) (cdv ct : Value) (us its : List Value), us.length = 2 → its.length = 1 → ∃ k, bindArgs (PySem.W.fnOf "__init__" qual (defArgs st) (defBody st) (defScope st) (.ref T) kV doc pm an cdv ct) ⟨us, []⟩ = seqItems? (.ref T) >>= k ∧ k (some its.toArray) = pure ((["self", "at"] : List Str).zip (us ++ its.drop 1)))
    (h0 : ∀ (T : Addr) (kV doc pm : Value) (an : Option Addr) (cdv ct : Value) (us its : List Value), us.length = 1 → its.length = 1 → ∃ k, bindArgs (PySem.W.fnOf "__init__" qual (defArgs st) (defBody st) (defScope st) (.ref T) kV doc pm an cdv ct) ⟨us, []⟩ = seqItems? (.ref T) >>= k ∧ k (some its.toArray) = pure ((["self", "at"] : List Str).zip (us ++ its.drop 0))) : ExI K qual st C fI fd := by
  refine ⟨T, iC, tI, no, F, ?_, ?_⟩
  · obtain ⟨ds, r, b⟩ := F.binds1 (ps := ["self", "at"]) 2 1 (by simp) rfl h1
    cases r
    exact b
  · exact F.binds1 (ps := ["self", "at"]) 1 0 (by simp) rfl h0
end S

/-! x[i] += e; x, y = (e, f); x[k].append(e) -/
namespace S
open PySem PySem.Spec PyProof.Rows L2
section
variable {X : Cx} {t : Ctx} {i j : Nat} {R R' : List Nat} {m mk : Env → RD} {e k : Expr} {x y : Str} {pos p p2 p3 : Pos}
theorem get_list : PGet X (rIxL X.K) := by
  intro pins s σ H o ix ov iv Q I ro ri h
  obtain ⟨l, xs, n, z, rfl, rfl, hq, he, q⟩ := h
  cases ro
  obtain ⟨tk, rfl⟩ := ri
  obtain ⟨its, r, pl, hz⟩ := I.list hq
  obtain ⟨j, h1, h2, h3, h4, h5⟩ := atI_get he
  obtain ⟨w, ew, rw'⟩ := r.get h2
  have hl := r.length
  have hn := line63
  have fin : EP X pins σ Q w s := ⟨z, H, I, rw', q⟩
  by_cases h0 : 0 ≤ n
  · have hj : n.toNat = j := by rw [seqIndex_of h0 h5] at h1; exact Option.some.inj h1
    exact wpAny_getItem_list pl.isList h0 (by omega) (by rw [hj]; simpa using ew) fin
  · have hj : (n + (its.toArray.size : Int)).toNat = j := by
      rw [seqIndex_neg (by omega) h4] at h1
      rw [List.size_toArray, ← hl]; exact Option.some.inj h1
    exact wpAny_getItem_list_neg pl.isList (by omega) (by rw [List.size_toArray] <;> omega) (by omega) (by rw [hj]; simpa using ew) fin
/-- a list of numbers in slot i: f put to one of them -/
def mAugS (f : Int → Int → Int) (i : Nat) (mk m : Env → RD) : Env → Out := fun env => match env[i]? with
  | some (some (true, .lst ds)) => mOf (mk env) fun _ q => match q with
    | .int k => match ixN ds.length k, atI ds k with
      | some p, some (.int a) => mOf (m env) fun _ d => match d with
        | .int b => if lfL ds = true then .nx (env.set i (some (true, .lst (ds.set p (.int (f a b)))))) else .no
        | _ => .no
      | _, _ => .no
    | _ => .no
  | _ => .no
theorem ss_augS {f : Int → Int → Int} {op : Operator} (hip : PIp X op (ipI f)) (hK : t.K.K = X.K) (hx : PE X (.Name x p) (tVar i)) (hk : PE X k (eP t R' mk)) (he : PE X e (eP t R m)) (ha : ∀ ov iv new, augStore k ov iv new = (do holding [new, ov, iv] (setItem ov iv new); release [new, ov, iv] []; pure .next) := by intros; rfl) :
    PS X (.AugAssign (.Subscript (.Name x p) k p2) op e pos) (sP t (mAugS f i mk m)) := by
  refine (ps_augS hx hk get_list he hip set_list ha).imp fun D σ H ⟨B, O, ow, env, re, o⟩ => ?_
  unfold mAugS at o
  split at o
  case h_2 => exact o.elim
  rename_i ds e0
  obtain ⟨a, xs, F, hv, hw, ha', T, hn, hi⟩ := re.lst e0
  refine ⟨.ref a, hv, B, O, ow, env, re, mOf_read re.ext o fun fr q v H1 s rv o1 => ?_⟩
  have re1 := re.same s
  have r1 := rv.rp re.odx (O' := OwX O R' ow) fun _ z => z
  cases r1 with
  | int n =>
    simp only at o1
    split at o1
    case h_2 => exact o1.elim
    rename_i p a0 hp hat
    obtain ⟨a1, xs1, F1, hv1, hw1, ha1, T1, hn1, hi1⟩ := re1.lst e0
    rw [hv] at hv1
    cases hv1
    have hq : SqL X.K H1 a xs1 := SqL.of ha1
    have rl := re1.items hw1 T1
    have hat' : atI xs1 n = some (.int a0) := by
      unfold atI at hat ⊢
      rw [T1.len]
      obtain ⟨j, h1, h2⟩ := Option.bind_eq_some_iff.mp hat
      obtain ⟨v1, h3, h4⟩ := rl.get h2
      cases h4
      exact Option.bind_eq_some_iff.mpr ⟨j, h1, h3⟩
    refine ⟨a, xs1, n, .int a0, rfl, rfl, hq, hat', B, O, ow, env, re1, mOf_read re1.ext o1 fun fr2 d2 v2 H2 s2 rv2 o2 => ?_⟩
    have r2 := rv2.rp re1.odx (O' := OwX O R ow) fun _ z => z
    cases r2 with
    | int b =>
      simp only at o2
      by_cases hl : lfL ds = true
      · simp only [if_pos hl] at o2
        refine ⟨a0, b, rfl, rfl, ?_⟩
        obtain ⟨ow', re'⟩ := re1.put s2 hv hw1 ha1 hi (((rl.same s2)).set (.int (f a0 b)) p) (lfL_set hl rfl p)
        exact ⟨a, xs1, n, p, rfl, rfl, s2.keep _ _ nt_lst ha1, by rw [T1.len]; exact hp, o2 ow' σ _ re'⟩
      · simp only [if_neg hl] at o2; exact o2.elim
    | _ => exact o2.elim
  | _ => exact o1.elim
/-- two things at once -/
def mPar (i j : Nat) (R : List Nat) (mr : Env → Rs (List D)) : Env → Out := fun env => match mr env with
  | .ok ds => match ds with
    | [d1, d2] => if lf d1 = true ∧ lf d2 = true then .nx ((env.set i (some (false, d1))).set j (some (false, d2))) else .nx (((frz R env).set i (some (false, d1))).set j (some (false, d2)))
    | _ => .no
  | .ex n a => .ex n a
  | .no => .no
theorem RE.putF2 {K : KT} {B H H' : Hp} {O : Addr → Prop} {ow : Nat → List Addr} {σ : L2.St} {env : Env} {v w : V} {d1 d2 : D} (re : RE K B O ow σ H env) (s : Sm K.T H H') (r1 : Rp K H' (Ow O ow) v d1) (r2 : Rp K H' (Ow O ow) w d2) : ∃ ow', RE K B O ow' ((σ.set i (some v)).set j (some w)) H' ((env.set i (some (false, d1))).set j (some (false, d2))) :=
  ⟨_, ((re.same s).putF (i := i) (Sm.refl _) (Rp.mono (fun a z => .inl (ow_set0 z)) r1)).putF (i := j) (Sm.refl _) (Rp.mono (fun a z => .inl (ow_set0 (ow_set0 z))) r2)⟩
theorem ss_par {px py pt pt2 : Pos} {kt k2 : _} {a b : Expr} {mr : Env → Rs (List D)} (hc : X.calm = true) (hN : X.N.Nodup) (hi : X.N[i]? = some x) (hj : X.N[j]? = some y) (hij : i ≠ j) (hx : X.env.scope.names.lookup x = some .local) (hy : X.env.scope.names.lookup y = some .local) (ha : PA X [a, b] (aP t R mr))
    (hw : swappedStores [.Tuple [.Name x px, .Name y py] kt pt] (.Tuple [a, b] k2 pt2) X.env = pure (some [x, y])) (hs : swapsWithSole [.Tuple [.Name x px, .Name y py] kt pt] (.Tuple [a, b] k2 pt2) pos.line X.env = pure false := by rfl) :
    PS X (.Assign [.Tuple [.Name x px, .Name y py] kt pt] (.Tuple [a, b] k2 pt2) pos) (sP t (mPar i j R mr)) := by
  refine (ps_par hc hN hi hj hij hx hy ha hw hs).imp fun D σ H ⟨B, O, ow, env, re, o⟩ => ⟨B, O, ow, env, re, ?_⟩
  unfold mPar at o
  cases q : mr env with
  | no => rw [q] at o; exact o.elim
  | ex n a => rw [q] at o; exact fun C dx H' s hx => o C dx H' (re.ext.trans s) hx
  | ok ds =>
    rw [q] at o
    intro vs H' s rl
    simp only at o
    split at o
    case h_2 => exact o.elim
    rename_i d1 d2
    cases rl with
    | cons r1 rl =>
      cases rl with
      | cons r2 rl =>
        cases rl
        refine ⟨_, _, rfl, ?_⟩
        by_cases hl : lf d1 = true ∧ lf d2 = true
        · rw [if_pos hl] at o
          obtain ⟨ow', re'⟩ := RE.putF2 (i := i) (j := j) re s (r1.free hl.1) (r2.free hl.2)
          exact o _ _ _ re'
        · rw [if_neg hl] at o
          obtain ⟨ow', re'⟩ := RE.putF2 (i := i) (j := j) (re.freeze R) s (Rp.mono (fun a z => .inl (owLess_x z)) r1) (Rp.mono (fun a z => .inl (owLess_x z)) r2)
          exact o _ _ _ re'
theorem atI_at {α : Type} {xs : List α} {k : Nat} {x : α} (h : xs[k]? = some x) : atI xs (k : Int) = some x := by
  have hk := (List.getElem?_eq_some_iff.mp h).1
  unfold atI ixN
  rw [if_pos (by omega), if_pos (by omega)]
  show xs[(k : Int).toNat]? = some x
  rw [Int.toNat_natCast]; exact h
/-- within the tree of slot i, a tuple, its thing at k, a list, gets one more -/
def mAppIx (i k : Nat) (m : Env → RD) : Env → Out := fun env => match env[i]? with
  | some (some (true, .tup ds)) => match ds[k]? with
    | some (.lst es) => mOf (m env) fun _ d => if lf d = true ∧ es.length < sizeLine then .nx (env.set i (some (true, .tup (ds.set k (.lst (es ++ [d])))))) else .no
    | _ => .no
  | _ => .no
theorem TrL.setAt {K : PySem.W.Frag} {H : Hp} {d : D} : ∀ {ds : List D} {F : List Addr} {vs : List V} {k : Nat}, TrL K H F vs ds → ds[k]? = some d → ∃ G v, vs[k]? = some v ∧ Tr K H G v d ∧ (∀ b ∈ G, b ∈ F) ∧
    ∀ (H' : Hp) (d' : D), Tr K H' G v d' → (∀ b ∈ F, b ∉ G → ∀ u, NT u → H b = some u → H' b = some u) → Firm H H' → TrL K H' F vs (ds.set k d')
  | [], _, _, _, .nil, e => by simp at e
  | _ :: _, _, _, 0, .cons (F := F) (G := G) h hs hd, e => by
    simp at e
    subst e
    refine ⟨F, _, rfl, h, fun b m => List.mem_append_left _ m, fun H' d' T k f => ?_⟩
    exact .cons T (hs.carry (fun b m => k b (List.mem_append_right _ m) fun z => hd b z m) f) hd
  | _ :: ds, _, _, n + 1, .cons (F := F) (G := G) h hs hd, e => by
    obtain ⟨G', v, h1, h2, h3, h4⟩ := TrL.setAt (k := n) hs (by simpa using e)
    refine ⟨G', v, by simpa using h1, h2, fun b m => List.mem_append_right _ (h3 b m), fun H' d' T k f => ?_⟩
    exact .cons (h.carry (fun b m => k b (List.mem_append_left _ m) fun z => hd b m (h3 b z)) f) (h4 H' d' T (fun b m => k b (List.mem_append_right _ m)) f) hd
theorem ss_appIx {call : Expr} {n : Nat} (hK : t.K.K = X.K) (h : PE X call (tBM X.K "list" rAppend (tOp (rIx X.K) (tVar i) (tC (.int (n : Int)))) (tCons (eP t R m) tNil))) (hs : swapsWith call none pos.line X.env = pure false := by rfl) : PS X (.Expr call pos) (sP t (mAppIx i n m)) := by
  refine (ps_expr h hs).imp fun D σ H ⟨B, O, ow, env, re, o⟩ => ?_
  unfold mAppIx at o
  split at o
  case h_2 => exact o.elim
  rename_i ds e0
  split at o
  case h_2 => exact o.elim
  rename_i es e1
  obtain ⟨v0, hv, T⟩ := re.tr i _ e0
  generalize how : ow i = F at T
  cases T with
  | @tup _ a xs _ hq TL =>
    obtain ⟨G, v, g1, g2, g3, g4⟩ := TL.setAt e1
    cases g2 with
    | @lst G' l ys _ hl TG hn =>
      have hi := (List.getElem?_eq_some_iff.mp e0).1
      have hat : atI xs (n : Int) = some (.ref l) := atI_at g1
      refine ⟨.ref a, hv, .inr (.inl ⟨a, xs, (n : Int), .ref l, rfl, rfl, by rw [← hK]; exact hq, hat, tyL hl, B, O, ow, env, re, mOf_read re.ext o fun fr d w H1 s rv o1 => ?_⟩)⟩
      by_cases hd : lf d = true ∧ es.length < sizeLine
      · rw [if_pos hd] at o1
        refine ⟨l, ys, w, rfl, rfl, s.keep _ _ nt_lst hl, by rw [TG.len]; exact hd.2, ?_⟩
        have hl1 := s.keep _ _ nt_lst hl
        have fi : Firm H (upd H1 l (.lst (ys ++ [w]))) := firm_upd s hl trivial
        have T2 : TrL t.K H1 ([] ++ []) [w] [d] := .cons ((rv.rp re.odx (O' := OwX O R ow) fun _ z => z).tr hd.1) .nil (fun _ z => nomatch z)
        have T2' : TrL t.K (upd H1 l (.lst (ys ++ [w]))) [] [w] [d] := T2.carry (fun b m => nomatch m) (firm_upd (Sm.refl (T := t.K.T) H1) hl1 trivial)
        have TG' : TrL t.K (upd H1 l (.lst (ys ++ [w]))) G' ys es := TG.carry (fun b m u nt e => by rw [upd_ne (fun z => by subst z; exact hn m)]; exact s.keep _ _ nt e) fi
        have T3 := TG'.append T2' (fun _ _ z => nomatch z)
        rw [List.append_nil] at T3
        have TL' := g4 _ _ (.lst upd_same T3 hn) (fun b m nb u nt e => by rw [upd_ne (fun z => by subst z; exact nb List.mem_cons_self)]; exact s.keep _ _ nt e) fi
        have re' := re.mutate (i := i) (d := .tup ds) hv hi (H' := upd H1 l (.lst (ys ++ [w]))) (fun b u nb nt e => by rw [upd_ne (fun z => nb (by rw [how, z]; exact g3 l List.mem_cons_self))]; exact s.keep _ _ nt e) (tabs_upd hl1 trivial (s.tabs re.tabs)) (.tup (fi.t hq) TL') (fun b m => .inl (by rw [how]; exact m))
        exact o1 _ _ _ re'
      · rw [if_neg hd] at o1; exact o1.elim
end
end S

/-! return (a, b, ..): a new tuple of trees that nobody else holds -/
namespace S
open PySem PySem.Spec PyProof.Rows L2
def PostF (t : Ctx) (ow : Nat → List Addr) (H : Hp) (U : List Nat) (r : Rs (List D)) (Q : List V → Hp → Prop) : Prop := match r with
  | .ok ds => ∀ vs H' F, Sm t.K.T H H' → TrL t.K H' F vs ds → (∀ a ∈ F, Fr H a ∨ ∃ i, i ∈ U ∧ a ∈ ow i) → Q vs H'
  | .ex n a => ∀ C dx H', Sm t.K.T H H' → IsExc t n a C dx H' → t.E (.ref C) dx H'
  | .no => False
def fP (t : Ctx) (U : List Nat) (m : Env → Rs (List D)) : TA := fun σ H Q => ∃ B O ow env, RE t.K B O ow σ H env ∧ PostF t ow H U (m env) Q
def fVar (i : Nat) (r : Env → Rs (List D)) : Env → Rs (List D) := fun env => match env[i]? with
  | some (some (o, d)) => if o = true ∨ lf d = true then (r env).bind fun ds => .ok (d :: ds) else .no
  | _ => .no
def fExp (m : Env → RD) (r : Env → Rs (List D)) : Env → Rs (List D) := fun env => (m env).bind fun x => if x.1 = true ∨ lf x.2 = true then (r env).bind fun ds => .ok (x.2 :: ds) else .no
def mRetT (f : Env → Rs (List D)) (p : Env → RD) : Env → Out := fun env => match f env with
  | .ok ds => if ds.length ≤ sizeLine then .rt true (.tup ds) else .no
  | .ex n a => .ex n a
  | .no => mRet p env
section
variable {X : Cx} {t : Ctx} {i : Nat} {R U : List Nat} {m : Env → RD} {r : Env → Rs (List D)} {e : Expr} {es : List Expr} {x : Str} {pos pos' p : Pos}
theorem sf_nil : PA X [] (fP t [] aNil) := pa_nil.imp fun σ H Q ⟨B, O, ow, env, re, po⟩ => po [] H [] (Sm.refl H) .nil (fun _ m => nomatch m)
theorem sf_var (h : PE X (.Name x p) (tVar i)) (hr : PA X es (fP t U r)) (hi : i ∉ U) (hs : starEach (.Name x p :: es) X.env = (false, eval (.Name x p) X.env) :: starEach es X.env := by rfl) : PA X (.Name x p :: es) (fP t (i :: U) (fVar i r)) := by
  refine (pa_cons h hr hs).imp fun σ H Q ⟨B, O, ow, env, re, po⟩ => ?_
  unfold fVar at po
  split at po
  case h_2 => exact po.elim
  rename_i o d e0
  by_cases hc : o = true ∨ lf d = true
  · rw [if_pos hc] at po
    have key : ∃ v F, σ[i]? = some (some v) ∧ Tr t.K H F v d ∧ (∀ a ∈ F, a ∈ ow i) := by
      cases o with
      | true =>
        obtain ⟨v, h1, h2⟩ := re.tr i d e0
        exact ⟨v, _, h1, h2, fun a m => m⟩
      | false =>
        obtain ⟨v, h1, h2⟩ := re.fz i d e0
        have hl : lf d = true := hc.elim (fun z => nomatch z) id
        exact ⟨v, [], h1, h2.tr hl, fun a m => nomatch m⟩
    obtain ⟨v, F, h1, h2, h3⟩ := key
    refine ⟨v, h1, B, O, ow, env, re, ?_⟩
    cases q : r env with
    | no => rw [q] at po; exact po.elim
    | ex n a => rw [q] at po; exact po
    | ok ds =>
      rw [q] at po
      intro vs H' G s T hG
      refine po (v :: vs) H' (F ++ G) s (.cons (h2.same s) T fun a m z => ?_) fun a m => ?_
      · obtain ⟨_, u, hu, lu⟩ := re.own i a (h3 a m)
        rcases hG a z with y | ⟨j, y1, y2⟩
        · exact y u (mut_nt lu) hu
        · rw [re.inj j i a y2 (h3 a m)] at y1
          exact hi y1
      · rcases List.mem_append.mp m with m | m
        · exact .inr ⟨i, List.mem_cons_self, h3 a m⟩
        · rcases hG a m with y | ⟨j, y1, y2⟩
          · exact .inl y
          · exact .inr ⟨j, List.mem_cons_of_mem _ y1, y2⟩
  · rw [if_neg hc] at po; exact po.elim
theorem sf_exp (h : PE X e (eP t R m)) (hr : PA X es (fP t U r)) (hs : starEach (e :: es) X.env = (false, eval e X.env) :: starEach es X.env := by rfl) : PA X (e :: es) (fP t U (fExp m r)) := by
  refine (pa_cons h hr hs).imp fun σ H Q ⟨B, O, ow, env, re, po⟩ => ⟨B, O, ow, env, re, ?_⟩
  unfold fExp at po
  cases q0 : m env with
  | no => rw [q0] at po; exact po.elim
  | ex n a => rw [q0] at po; exact po
  | ok x0 =>
    obtain ⟨fr, d⟩ := x0
    rw [q0] at po
    simp only [Rs.bind_ok] at po
    intro v H1 s1 rv
    refine ⟨B, O, ow, env, re.same s1, ?_⟩
    by_cases hc : fr = true ∨ lf d = true
    · rw [if_pos hc] at po
      have key : ∃ F, Tr t.K H1 F v d ∧ (∀ a ∈ F, Fr H a) := by
        cases fr with
        | true => exact rv
        | false => exact ⟨[], Rp.tr (hc.elim (fun z => nomatch z) id) rv, fun a m => nomatch m⟩
      obtain ⟨F, h2, h3⟩ := key
      cases q : r env with
      | no => rw [q] at po; exact po.elim
      | ex n a => rw [q] at po; exact fun C dx H' s hx => po C dx H' (s1.trans s) hx
      | ok ds =>
        rw [q] at po
        intro vs H' G s T hG
        refine po (v :: vs) H' (F ++ G) (s1.trans s) (.cons (h2.same s) T fun a m z => ?_) fun a m => ?_
        · rcases hG a z with y | ⟨j, y1, y2⟩
          · obtain ⟨u, hu, lu⟩ := h2.mem a m
            exact y u (mut_nt lu) hu
          · obtain ⟨_, u, hu, lu⟩ := re.own j a y2
            exact h3 a m u (mut_nt lu) hu
        · rcases List.mem_append.mp m with m | m
          · exact .inl (h3 a m)
          · rcases hG a m with y | y
            · exact .inl (s1.free y)
            · exact .inr y
    · rw [if_neg hc] at po; exact po.elim
theorem ss_retT {k : _} {mr : Env → Rs (List D)} {f : Env → Rs (List D)} (hF : PA X es (fP t U f)) (h : PA X es (aP t R mr)) : PS X (.Return (some (.Tuple es k pos)) pos') (sP t (mRetT f (eTup mr))) := by
  refine ⟨fun pins s σ H D I ⟨B, O, ow, env, re, o⟩ => ?_⟩
  unfold mRetT at o
  cases q : f env with
  | no =>
    rw [q] at o
    exact (ss_ret (pos := pos') (se_tup (x1 := k) (pos := pos) h)).run pins s σ H D I ⟨B, O, ow, env, re, o⟩
  | ex n a =>
    rw [q] at o
    exact (ps_ret (pos := pos') (pe_tup (x1 := k) (pos := pos) hF)).run pins s σ H D I ⟨B, O, ow, env, re, by rw [q]; exact fun C dx H' s' hx => o C dx H' (re.ext.trans s') hx⟩
  | ok ds =>
    rw [q] at o
    simp only at o
    by_cases hl : ds.length ≤ sizeLine
    · rw [if_pos hl] at o
      refine (ps_ret (pos := pos') (pe_tup (x1 := k) (pos := pos) hF)).run pins s σ H D I ⟨B, O, ow, env, re, ?_⟩
      rw [q]
      intro vs H' F s' T hG
      refine ⟨by rw [T.len]; exact hl, fun l hp => o (.ref l) _ (re.ext.trans (s'.trans (upd_new hp))) ⟨F, .tup (.of upd_same) (T.same (upd_new (T := t.K.T) hp)), fun a m => ?_⟩⟩
      rcases hG a m with y | ⟨j, _, y⟩
      · exact re.ext.free y
      · exact (re.own j a y).1
    · rw [if_neg hl] at o; exact o.elim
end
end S

/-! new lists of trees; such lists appended -/
namespace S
open PySem PySem.Spec PyProof.Rows L2
def eLstF (f : Env → Rs (List D)) (p : Env → RD) : Env → RD := fun env => match f env with
  | .ok ds => if ds.length ≤ sizeLine then .ok (true, .lst ds) else .no
  | .ex n a => .ex n a
  | .no => p env
def mAugF (i : Nat) (m : Env → RD) : Env → Out := fun env => match env[i]? with
  | some (some (true, .lst ds)) => mOf (m env) fun fr d => match d with
    | .lst es => if (fr = true ∨ lfL es = true) ∧ ds.length + es.length ≤ sizeLine then .nx (env.set i (some (true, .lst (ds ++ es)))) else .no
    | _ => .no
  | _ => .no
section
variable {X : Cx} {t : Ctx} {i : Nat} {R U : List Nat} {m : Env → RD} {r : Env → Rs (List D)} {e : Expr} {es : List Expr} {x : Str} {pos pos' p : Pos}
theorem se_lstF {mr : Env → Rs (List D)} {f : Env → Rs (List D)} (hF : PA X es (fP t [] f)) (h : PA X es (aP t R mr)) : PE X (.List es pos) (eP t R (eLstF f (eLst mr))) := by
  refine ⟨fun pins s σ H Q I ⟨B, O, ow, env, re, po⟩ => ?_⟩
  unfold eLstF at po
  cases q : f env with
  | no =>
    rw [q] at po
    exact (se_lst (pos := pos) h).run pins s σ H Q I ⟨B, O, ow, env, re, po⟩
  | ex n a =>
    rw [q] at po
    exact (pe_lst (pos := pos) hF).run pins s σ H Q I ⟨B, O, ow, env, re, by rw [q]; exact fun C dx H' s' hx => po C dx H' s' hx⟩
  | ok ds =>
    rw [q] at po
    simp only at po
    by_cases hl : ds.length ≤ sizeLine
    · rw [if_pos hl] at po
      refine (pe_lst (pos := pos) hF).run pins s σ H Q I ⟨B, O, ow, env, re, ?_⟩
      rw [q]
      intro vs H' F s' T hG
      refine ⟨by rw [T.len]; exact hl, fun l hp => po (.ref l) _ (s'.trans (upd_new hp)) ⟨l :: F, .lst upd_same (T.same (upd_new (T := t.K.T) hp)) (fun z => ?_), fun a m => ?_⟩⟩
      · obtain ⟨u, hu, _⟩ := T.mem l z
        rw [hp] at hu
        cases hu
      · rcases List.mem_cons.mp m with rfl | m
        · exact s'.free (fr_none hp)
        · rcases hG a m with y | ⟨j, y, _⟩
          · exact y
          · exact nomatch y
    · rw [if_neg hl] at po; exact po.elim
theorem ss_augF {e : Expr} {x : Str} {pos' : Pos} (hN : X.N.Nodup) (hi : X.N[i]? = some x) (hx : Loc X.env.scope x) (he : PE X e (eP t R m)) (hf : X.fn x = true ∨ X.env.scope.names.lookup x = some .local := by first | exact .inl rfl | exact .inr rfl | assumption) :
    PS X (.AugAssign (.Name x pos') .Add e pos) (sP t (mAugF i m)) := by
  refine (ps_aug hN hi hx he ip_U hf).imp fun D σ H ⟨B, O, ow, env, re, o⟩ => ?_
  unfold mAugF at o
  split at o
  · rename_i ds e
    obtain ⟨a, xs, F, hv, hw, ha, T, hn, hi⟩ := re.lst e
    refine ⟨.ref a, hv, B, O, ow, env, re, mOf_read re.ext o fun fr d v H1 s rv o1 => ?_⟩
    have e2 : σ.set i (some (.ref a)) = σ := by
      obtain ⟨h1, h2⟩ := List.getElem?_eq_some_iff.mp hv
      rw [← h2]
      exact List.set_getElem_self h1
    cases d with
    | lst es =>
      simp only at o1
      by_cases hl : (fr = true ∨ lfL es = true) ∧ ds.length + es.length ≤ sizeLine
      · rw [if_pos hl] at o1
        cases fr with
        | true =>
          obtain ⟨G, g1, g2⟩ := rv
          cases g1 with
          | @lst G' b ys _ h1 h2 h3 =>
            obtain ⟨ow', re'⟩ := re.app s hv hw ha T hn hi h2 (fun c z => g2 c (List.mem_cons_of_mem _ z))
            refine .inr (.inl ⟨a, b, xs, ys, rfl, rfl, s.keep _ _ nt_lst ha, h1, by rw [T.len, h2.len]; exact hl.2, ?_⟩)
            show D.nx (σ.set i (some (.ref a))) _
            rw [e2]
            exact o1 ow' σ _ re'
        | false =>
          have r := rv.rp re.odx (O' := OwX O R ow) fun _ z => z
          have hl1 : lfL es = true := hl.1.elim (fun z => nomatch z) id
          cases r with
          | @lst b ys es h1 n1 h2 =>
            obtain ⟨ow', re'⟩ := re.app s hv hw ha T hn hi (h2.tr hl1) (fun _ z => nomatch z)
            refine .inr (.inl ⟨a, b, xs, ys, rfl, rfl, s.keep _ _ nt_lst ha, h1, by rw [T.len, h2.len]; exact hl.2, ?_⟩)
            show D.nx (σ.set i (some (.ref a))) _
            rw [e2]
            exact o1 ow' σ _ re'
      · rw [if_neg hl] at o1; exact o1.elim
    | _ => exact o1.elim
  · exact o.elim
/-! a told tuple of two taken apart -/
theorem _root_.S.RE.putT2 {K : KT} {B : Hp} {O : Addr → Prop} {ow : Nat → List Addr} {σ : L2.St} {H H' : Hp} {env : Env} {i j : Nat} {v1 v2 : V} {d1 d2 : D} {F1 F2 : List Addr} (re : RE K B O ow σ H env) (s : Sm K.T H H') (r1 : Tr K H' F1 v1 d1) (r2 : Tr K H' F2 v2 d2) (hF1 : ∀ a ∈ F1, Fr H a) (hF2 : ∀ a ∈ F2, Fr H a) (hd : ∀ a ∈ F1, a ∉ F2) (hij : j ≠ i) :
    RE K B O (owSet (owSet ow i F1) j F2) ((σ.set i (some v1)).set j (some v2)) H' ((env.set i (some (true, d1))).set j (some (true, d2))) := by
  have re1 := re.putT (i := i) s r1 hF1
  have no : ∀ {l a}, a ∈ F2 → a ∈ owSet ow i F1 l → False := fun {l a} z1 z2 => by
    rcases mem_owSet z2 with ⟨_, z⟩ | ⟨_, z⟩
    · exact hd a z z1
    · obtain ⟨_, u, h, q⟩ := re.own l a z
      exact hF2 a z1 u (mut_nt q) h
  refine ⟨by simp [re.len], re1.ext, re1.tabs, re.dom, fun k e h => ?_, fun k e h => ?_, fun k a h => ?_, fun k l a h1 h2 => ?_⟩
  · rcases set_get h with ⟨rfl, e1, hl⟩ | ⟨ne, h⟩
    · cases e1
    · rcases set_get h with ⟨rfl, e1, hl⟩ | ⟨ne2, h⟩
      · cases e1
      · obtain ⟨w, h1, h2⟩ := re.fz k e h
        exact ⟨w, by rw [List.getElem?_set_ne (Ne.symm ne), List.getElem?_set_ne (Ne.symm ne2)]; exact h1, (h2.mono fun a z => by
          rcases ow_set z with z | z
          · exact (ow_set z).imp id (hF1 a)
          · exact .inr (hF2 a z)).same s⟩
  · rcases set_get h with ⟨rfl, e1, hl⟩ | ⟨ne, h⟩
    · cases e1
      exact ⟨v2, List.getElem?_set_self (by rw [List.length_set] at hl ⊢; rw [re.len]; exact hl), by rw [owSet_same]; exact r2⟩
    · obtain ⟨w, h1, h2⟩ := re1.tr k e h
      exact ⟨w, by rw [List.getElem?_set_ne (Ne.symm ne)]; exact h1, by rw [owSet_ne ne]; exact h2⟩
  · rcases mem_owSet h with ⟨_, z⟩ | ⟨_, z⟩
    · exact ⟨re.ext.free (hF2 a z), r2.mem a z⟩
    · exact re1.own k a z
  · rcases mem_owSet h1 with ⟨e1, z1⟩ | ⟨_, z1⟩
    · rcases mem_owSet h2 with ⟨e2, z2⟩ | ⟨_, z2⟩
      · rw [e1, e2]
      · exact (no z1 z2).elim
    · rcases mem_owSet h2 with ⟨e2, z2⟩ | ⟨_, z2⟩
      · exact (no z2 z1).elim
      · exact re1.inj k l a z1 z2
def mAsgT (i j : Nat) (m : Env → RD) : Env → Out := fun env => mOf (m env) fun fr d => match d with
  | .tup [d1, d2] => if fr = true then .nx ((env.set i (some (true, d1))).set j (some (true, d2))) else .no
  | _ => .no
theorem ss_asgT {i j : Nat} {x y : Str} {k : Nat} {p1 p2 p3 : Pos} (hK : t.K.K = X.K) (hc : X.calm = true) (hN : X.N.Nodup) (hi : X.N[i]? = some x) (hx : Loc X.env.scope x) (hj : X.N[j]? = some y) (hy : Loc X.env.scope y) (hij : j ≠ i) (he : PE X e (eP t R m))
    (hs : swapsWithSole [.Tuple [.Name x p1, .Name y p2] k p3] e pos.line X.env = pure false := by rfl) (hw : swappedStores [.Tuple [.Name x p1, .Name y p2] k p3] e X.env = pure none := by rfl)
    (h1 : (assignEach [.Tuple [.Name x p1, .Name y p2] k p3] X.env).map (·.2) = [assign (.Tuple [.Name x p1, .Name y p2] k p3) X.env] := by rfl)
    (hn : (assignEach [.Name x p1, .Name y p2] X.env).length = 2 := by rfl) (hst : (assignEach [.Name x p1, .Name y p2] X.env).findIdx? (·.1) = none := by rfl)
    (hs2 : (assignEach [.Name x p1, .Name y p2] X.env).map (·.2) = assign (.Name x p1) X.env :: (assignEach [.Name y p2] X.env).map (·.2) := by rfl) (hs3 : (assignEach [.Name y p2] X.env).map (·.2) = assign (.Name y p2) X.env :: (assignEach [] X.env).map (·.2) := by rfl)
    (hf : X.fn x = true ∨ X.env.scope.names.lookup x = some .local := by first | exact .inl rfl | exact .inr rfl | assumption) (hg : X.fn y = true ∨ X.env.scope.names.lookup y = some .local := by first | exact .inl rfl | exact .inr rfl | assumption) :
    PS X (.Assign [.Tuple [.Name x p1, .Name y p2] k p3] e pos) (sP t (mAsgT i j m)) := by
  refine (ps_asg he (pg_tup (k := k) (pos := p3) hc (pgs_cons (pg_name (pos := p1) hN hi hx hf) (pgs_cons (pg_name (pos := p2) hN hj hy hg) pgs_nil hs3) hs2) hn hst) hs hw h1).imp fun Dn σ H ⟨B, O, ow, env, re, o⟩ => ⟨B, O, ow, env, re, mOf_read re.ext o fun fr d v H1 s rv o1 => ?_⟩
  cases d with
  | tup ds =>
    match ds, o1, rv with
    | [d1, d2], o1, rv =>
      simp only at o1
      cases fr with
      | false => simp at o1; exact o1.elim
      | true =>
        rw [if_pos rfl] at o1
        obtain ⟨F, g1, g2⟩ := rv
        cases g1 with
        | @tup _ a xs _ t1 t2 =>
          cases t2 with
          | @cons F1 G1 w1 ws _ _ u1 u2 u3 =>
            cases u2 with
            | @cons F2 G2 w2 ws2 _ _ u4 u5 u6 =>
              cases u5 with
              | nil =>
                refine ⟨a, _, rfl, by rw [← hK]; exact t1, rfl, w1, _, rfl, w2, _, rfl, rfl, ?_⟩
                exact o1 _ _ H1 (re.putT2 s u1 u4 (fun b z => g2 b (List.mem_append_left _ z)) (fun b z => g2 b (List.mem_append_right _ (List.mem_append_left _ z))) (fun b z z2 => u3 b z (List.mem_append_left _ z2)) hij)
  | _ => exact o1.elim
end
end S

/-! enumerate(reversed(list)) -/
namespace S
open PySem L2 PySem.Spec PyProof.Rows
open Sem (wp)
section
variable {prog : Program} {w : World} {A : Around} {E : Value → Shared → Prop} {s : Shared}
theorem nextOf_rev_item {it l : Addr} {i : Nat} {items : Array Value} {x : Value} {Q : Value → Shared → Prop} (hit : s.heap.IsRevIter it l (i : Int)) (hl : s.heap.IsList l items) (hx : items[i]? = some x)
    (hQ : ∀ h', h'.IsRevIter it l ((i : Int) - 1) → Heap.SameBut it s.heap h' → Q x { s with heap := h' }) : wpAny (model prog w) A (Builtin.SmallTypes.nextOf (.ref it)) Q E s := by
  obtain ⟨o, ho, hc, hd⟩ := id hit
  obtain ⟨ol, hol, _, nl, hdl⟩ := hl
  unfold Builtin.SmallTypes.nextOf
  refine wpAny_bind (wpAny_callSpecial?_slot (name := Str.ofString "__next__") hit.typeIs F.slot_lri_next
    (wpAny_call_entry F.slot_lri_next hit.typeIs F.entry_lri_next ?_ (F.args_lri_next_1 _)))
  unfold Builtin.«list_reverseiterator.__next__»
  refine wpAny_bind (wpAny_of_eq (a := (Value.ref it, [])) rfl ?_)
  try dsimp only
  refine wpAny_bind (wpAny_field ho hd (x := rawInt (i : Int)) rfl ?_)
  show wpAny _ _ (if (i : Int) < 0 then _ else _) _ _ s
  rw [if_neg (by omega)]
  show wpAny _ _ (field (.ref it) 0 >>= _) _ _ s
  refine wpAny_bind (wpAny_field ho hd (x := .ref l) rfl ?_)
  show wpAny _ _ (seqItems? (.ref l) >>= _) _ _ s
  refine wpAny_bind (wpAny_seqItems hol hdl ?_)
  simp only [Int.toNat_natCast, hx]
  refine wpAny_bind (wpAny_setField ho hd (by simp) ?_)
  first
  | refine wpAny_pure ⟨x, rfl, wpAny_pure (hQ _ ?_ (Heap.SameBut.update ..))⟩
  | refine wpAny_bind (wpAny_pure (wpAny_pure ⟨x, rfl, wpAny_pure (hQ _ ?_ (Heap.SameBut.update ..))⟩))
  exact ⟨_, Heap.get?_update_self _ ho (Obj.isFreed_of_fields (Obj.data_mapFields hd _)), (Obj.cls_mapFields ..).trans hc, by
    rw [Obj.data_mapFields hd]; simp⟩
theorem nextOf_rev_end {it l : Addr} {Q : Value → Shared → Prop} (hh : A.handled = none) (hit : s.heap.IsRevIter it l (-1))
    (hE : ∀ h' e, Heap.ExtBut it s.heap h' → (∃ o, h'.get? e = some o ∧ o.cls = .type "StopIteration") → E (.ref e) { s with heap := h' }) : wpAny (model prog w) A (Builtin.SmallTypes.nextOf (.ref it)) Q E s := by
  obtain ⟨o, ho, hc, hd⟩ := id hit
  unfold Builtin.SmallTypes.nextOf
  refine wpAny_bind (wpAny_callSpecial?_slot (name := Str.ofString "__next__") hit.typeIs F.slot_lri_next
    (wpAny_call_entry F.slot_lri_next hit.typeIs F.entry_lri_next ?_ (F.args_lri_next_1 _)))
  unfold Builtin.«list_reverseiterator.__next__»
  refine wpAny_bind (wpAny_of_eq (a := (Value.ref it, [])) rfl ?_)
  try dsimp only
  refine wpAny_bind (wpAny_field ho hd (x := rawInt (-1)) rfl ?_)
  show wpAny _ _ (if (-1 : Int) < 0 then _ else _) _ _ s
  rw [if_pos (by decide)]
  refine wpAny_bind (wpAny_rule ?_)
  first
  | show wpAny _ _ (newExc (.type "StopIteration") [] >>= _) _ _ _
  | (refine wpAny_bind ?_; show wpAny _ _ (newExc (.type "StopIteration") [] >>= _) _ _ _)
  refine wpAny_bind ?_
  simp only [newExc, newTuple]
  refine wpAny_bind (wpAny_newObj_type ?_ (by size_fits))
  refine wpAny_bind (m := firstArgMember _ _) (wpAny_of_eq (a := Value.none) (by first | rfl | (simp only [firstArgMember]; rfl)) ?_)
  refine wpAny_newObj_type ?_ (by size_fits)
  simp only [raiseNew]
  refine wpAny_bind (wpAny_handled ?_)
  first | rw [show A.in1.handled = none from hh] | rw [hh]
  refine wpAny_bind (wpAny_pure (wpAny_throw ?_))
  exact hE _ _ (((Heap.ExtBut.refl _ _).push _).push _) ⟨_, Heap.get?_push_size _ rfl, rfl⟩
end
theorem draws_rev {prog : Program} {w : World} {A : Around} (hh : A.handled = none) (it l : Addr) (hne : l ≠ it) (items : Array Value) :
    Draws prog w A it [it, l] items.size (fun i v => items[items.size - 1 - i]? = some v) (fun i h => i ≤ items.size ∧ h.IsRevIter it l ((items.size : Int) - 1 - (i : Int)) ∧ h.IsList l items) where
  live := fun _ _ st => let ⟨o, ho, _⟩ := st.2.1; ⟨o, ho⟩
  frame := fun _ _ _ st hk => ⟨st.1, st.2.1.at fun o e => hk it (by simp) o e, st.2.2.at fun o e => hk l (by simp) o e⟩
  item := fun i s Q E hi st hQ => by
    have e : (items.size : Int) - 1 - (i : Int) = ((items.size - 1 - i : Nat) : Int) := by omega
    have hit := st.2.1
    rw [e] at hit
    have hx : items[items.size - 1 - i]? = some (items[items.size - 1 - i]'(by omega)) := Array.getElem?_eq_getElem (by omega)
    refine nextOf_rev_item hit st.2.2 hx fun h' hit' hs' => ?_
    have e2 : ((items.size - 1 - i : Nat) : Int) - 1 = (items.size : Int) - 1 - ((i + 1 : Nat) : Int) := by omega
    rw [e2] at hit'
    exact hQ _ h' s.toks hx ⟨hi, hit', st.2.2.extBut hs'.extBut hne⟩ hs'
  done := fun s Q E st hE => by
    have hit := st.2.1
    have e : (items.size : Int) - 1 - (items.size : Int) = -1 := by omega
    rw [e] at hit
    exact nextOf_rev_end hh hit hE
def ItER (K : PySem.W.Frag) (a : Addr) (n : Nat) : It :=
  ⟨fun i H => ∃ xs, SqL K H a xs ∧ xs.length = n ∧ i < n, fun i H v H' => ∃ T x, v = .ref T ∧ H T = none ∧ H' = upd H T (.tup [.int (i : Int), x]) ∧ ∀ xs, SqL K H a xs → xs[n - 1 - i]? = some x, fun i H => ∃ xs, SqL K H a xs ∧ xs.length = n ∧ n = i⟩
theorem turn_er {P : Program} {w : World} {K : PySem.W.Frag} {elts : List Expr} {kk : Nat} {tpos : Pos} (a e it : Addr) (n : Nat) (hei : e ≠ it) (hae : a ≠ e) (hai : a ≠ it) :
    Turn P w K (.Tuple elts kk tpos) (ItER K a n) [e, it] e (fun i h => (∃ old, IsEnum h e it (0 + (i : Int)) old) ∧ i ≤ n ∧ h.IsRevIter it a ((n : Int) - 1 - (i : Int))) where
  mem := List.mem_cons_self
  obj := fun i h st b hb => by
    obtain ⟨⟨old, he⟩, _, o, ho, _, hd⟩ := st
    rcases List.mem_cons.mp hb with z | hb
    · rw [z]; exact ⟨_, he, fun v q => nomatch q⟩
    · rw [List.mem_singleton.mp hb]; exact ⟨o, ho, fun v z => by rw [hd] at z; cases z⟩
  keep := fun i h h' st k => ⟨let ⟨old, he⟩ := st.1; ⟨old, k e List.mem_cons_self _ he⟩, st.2.1, st.2.2.at fun o q => k it (List.mem_cons_of_mem _ List.mem_cons_self) o q⟩
  item := by
    intro X hP hw hK hc i pins s σ H E I hf st hg
    subst hP hw hK
    obtain ⟨xs, hq, hl, hi⟩ := hg
    obtain ⟨its, rv, p, _⟩ := I.list hq
    have p := p.isList
    have hsz : its.toArray.size = n := by rw [List.size_toArray, ← rv.length]; exact hl
    subst hsz
    have W := GoesN.enumFrom (prog := X.prog) (w := X.w) (A := X.A) (elts := elts) (x1 := kk) (pos := tpos) 0 (draws_rev (A := X.A.in1) (I.ok.hd hc) it a hai its.toArray) e hei (by simp [hei, Ne.symm hae]) List.mem_cons_self
    have old : ∀ b ∈ [e, it], ∃ o, s.heap.get? b = some o := fun b hb => by
      rcases List.mem_cons.mp hb with z | hb
      · obtain ⟨⟨o, he⟩, _⟩ := st; rw [z]; exact ⟨_, he⟩
      · obtain ⟨o, he, _⟩ := st.2.2; rw [List.mem_singleton.mp hb]; exact ⟨_, he⟩
    refine thn (W.goes i s _ E hi ⟨st.1, st.2.1, st.2.2, p⟩ fun v h' tk hY st' hk htk => ?_) fun r s1 ⟨v, hv, q⟩ => ⟨v, hv, q⟩
    obtain ⟨T, t, u, rfl, hT, hx, hTup⟩ := hY
    obtain ⟨x, hx', rx⟩ := at_val (i := its.toArray.size - 1 - i) rv (by omega) hx
    rw [zadd] at hTup
    have hn : H T = none := I.hok.fresh hT
    have new : ObjOk X.prog X.w (upd H T (.tup [.int (i : Int), x])) h' T (.tup [.int (i : Int), x]) := ⟨by show 2 ≤ sizeLine; decide, [.int (i : Int) t, u], .cons ⟨_, rfl⟩ (.cons rx .nil), hTup⟩
    have I1 : Inv X pins σ (upd H T (.tup [.int (i : Int), x])) { s with heap := h', toks := tk } := I.turnedNew (ch := [e, it]) hk hf hT new
    refine ⟨.ref T, _, I1, rfl, ⟨T, x, rfl, hn, rfl, fun ys hy => by rw [I.list_inj hy hq]; exact hx'⟩, ⟨st'.1, st'.2.1, st'.2.2.1⟩, fun b hb => ?_⟩
    obtain ⟨o, ho⟩ := old b hb
    rw [upd_ne (Nat.ne_of_lt (Nat.lt_of_lt_of_le (Heap.lt_size ho) hT))]
    exact (hf b hb).1
  done := by
    intro X hP hw hK hc i pins s σ H E I hf st hg
    subst hP hw hK
    obtain ⟨xs, hq, hl, hi⟩ := hg
    obtain ⟨its, rv, p, _⟩ := I.list hq
    have p := p.isList
    have hsz : its.toArray.size = n := by rw [List.size_toArray, ← rv.length]; exact hl
    subst hsz
    subst hi
    have W := GoesN.enumFrom (prog := X.prog) (w := X.w) (A := X.A) (elts := elts) (x1 := kk) (pos := tpos) 0 (draws_rev (A := X.A.in1) (I.ok.hd hc) it a hai its.toArray) e hei (by simp [hei, Ne.symm hae]) List.mem_cons_self
    exact W.stops s _ E ⟨st.1, st.2.1, st.2.2, p⟩ fun h' tk hk _ => I.turnedL (ch := [e, it]) hk hf
  self := fun A i s Q E st h => let ⟨⟨_, he⟩, _⟩ := st; wpAny_pyIter_enum he h
theorem enum_newR {it l : Addr} {i : Int} :
    Meets (Builtin.«enumerate.__new__» ⟨[.type "enumerate", .ref it], []⟩) (fun _ R s => s.heap.IsRevIter it l i ∧
      R (.ok (.ret (.ref s.heap.objs.size))) { s with heap := s.heap.push { cls := .type "enumerate", data := .fields #[.none, .bool false, .ref it, rawInt 0, .none, .none] } }) :=
  .of_wp fun prog w A R s h => by
    obtain ⟨hp, g, d, tk, os⟩ := s
    obtain ⟨h1, h⟩ := h
    have hsub := sub_enumerate
    have hi := fun (A : Around) (E : Value → Shared → Prop) (s : Shared) (Q : Value → Shared → Prop) (h1 : s.heap.IsRevIter it l i) (h2 : Q (.ref it) s) => wpAny_pyIter_revIter (prog := prog) (w := w) (A := A) (E := E) h1 h2
    wp_walk
    refine wpAny_stack_any fun st => wpAny_pure ?_
    split
    · rename_i c _ _ _ _ _
      cases (c == Value.type "enumerate")
      · wp_walk using (hi _ _ _ _ h1)
        exact ⟨_, rfl, h⟩
      · wp_walk using (hi _ _ _ _ h1)
        exact ⟨_, rfl, h⟩
    · wp_walk using (hi _ _ _ _ h1)
      exact ⟨_, rfl, h⟩
def iEnumRU (K : PySem.W.Frag) (te : TE) : TI := fun σ H R => te σ H fun v H1 => ∃ a xs, v = .ref a ∧ SqL K H1 a xs ∧ R (ItER K a xs.length) H1
theorem pi_enumRU {X : Cx} {e : Expr} {te : TE} {p p2 pos pos2 tpos : Pos} {elts : List Expr} {kk : Nat} (hg : Gl X "enumerate") (hm : X.mg "enumerate" = none) (hg2 : Gl X "reversed") (hm2 : X.mg "reversed" = none) (he : PE X e te)
    (hs : starEach [e] X.env = (false, eval e X.env) :: starEach [] X.env := by rfl)
    (hs2 : starEach [.Call (.Name "reversed" p2) [e] [] pos2] X.env = (false, eval (.Call (.Name "reversed" p2) [e] [] pos2) X.env) :: starEach [] X.env := by rfl) :
    PI X (.Tuple elts kk tpos) (.Call (.Name "enumerate" p) [.Call (.Name "reversed" p2) [e] [] pos2] [] pos) (iEnumRU X.K te) := by
  refine ⟨fun pins s σ H R I h => ?_⟩
  refine Call_ (ld_blt I hg hm boot_enumerate (PyProof.Rows.callWith_type1 (args_cons (Call_ (ld_blt I hg2 hm2 PyProof.Rows.boot_reversed (PyProof.Rows.callWith_type1 (args_cons (thn (he.run pins s σ H _ I h) fun u s1 ⟨v, H1, I1, r1, q1⟩ => args_nil ?_) hs) hs rfl))) hs2) hs2 rfl))
  obtain ⟨a, xs, ev, hq, q⟩ := q1
  subst ev
  obtain rfl : u = Value.ref a := r1
  obtain ⟨its, rv, p', hz⟩ := I1.list hq
  refine call_reversed_list p'.isList (args_nil ?_)
  have hl := p'.isList
  obtain ⟨ol, hol, _⟩ := id hl
  have hne : a ≠ s1.heap.objs.size := Nat.ne_of_lt (Heap.lt_size hol)
  have hal : a < s1.heap.objs.size := Heap.lt_size hol
  have hrev : (s1.heap.push (revObj a ((its.toArray.size : Int) - 1))).IsRevIter s1.heap.objs.size a ((its.toArray.size : Int) - 1) := ⟨_, Heap.get?_push_size _ rfl, rfl, rfl⟩
  refine callType_new F.called_enumerate (by decide) (F.typeCall_enumerate_1 _) (F.newCall_enumerate_1 _) (fun obj => F.args_object_init_2 obj _) F.entry_enumerate_new
      (enum_newR (l := a) (i := (its.toArray.size : Int) - 1)) ⟨hrev, ?_⟩
  have z1 : (s1.heap.push (revObj a ((its.toArray.size : Int) - 1))).objs.size = s1.heap.objs.size + 1 := Heap.size_push ..
  generalize hh : (s1.heap.push (revObj a ((its.toArray.size : Int) - 1))).push { cls := .type "enumerate", data := .fields #[.none, .bool false, .ref s1.heap.objs.size, rawInt 0, .none, .none] } = h'
  have hen : IsEnum h' (s1.heap.objs.size + 1) s1.heap.objs.size 0 .none := by
    rw [← hh, ← z1]; exact Heap.get?_push_size _ rfl
  have hi : h'.IsRevIter s1.heap.objs.size a ((its.toArray.size : Int) - 1) := by
    rw [← hh]; exact hrev.at fun o e => Heap.get?_push_of_some _ e
  have hk : ∀ b o, s1.heap.get? b = some o → h'.get? b = some o := fun b o e => by
    rw [← hh]; exact Heap.get?_push_of_some _ (Heap.get?_push_of_some _ e)
  have I2 : Inv X pins σ H1 { s1 with heap := h' } := I1.kept (t' := s1.toks) hk
  have hlen : its.toArray.size = xs.length := by rw [List.size_toArray, rv.length]
  rw [hlen] at hi
  dsimp only
  rw [z1]
  refine ⟨⟨_, hen, rfl⟩, wpAny_pyIter_enum hen ?_⟩
  refine ⟨s1.heap.objs.size + 1, [s1.heap.objs.size + 1, s1.heap.objs.size], _, _, H1, rfl, I2, turn_er a _ _ xs.length (Nat.succ_ne_self _) (Nat.ne_of_lt (Nat.lt_succ_of_lt hal)) (Nat.ne_of_lt hal), ⟨⟨.none, hen⟩, Nat.zero_le _, by simpa using hi⟩, fun b hb => ?_, q⟩
  have hle : s1.heap.objs.size ≤ b := by
    rcases List.mem_cons.mp hb with z | z
    · rw [z]; exact Nat.le_succ _
    · rw [List.mem_singleton.mp z]; exact Nat.le_refl _
  exact I1.fpOk hle (I1.hok.fresh hle)
def iEnumR (m : Env → RD) : Env → Rs (List D) := fun env => (m env).bind fun x => match x.2 with
  | .lst ds => .ok (ds.reverse.mapIdx fun i d => .tup [.int (i : Int), d])
  | _ => .no
theorem enumR_walk {K : PySem.W.Frag} {O : Addr → Prop} {H1 : Hp} {a : Addr} {ds : List D} (r : Rp K H1 O (.ref a) (.lst ds)) :
    ∃ xs, SqL K H1 a xs ∧ WalkOk K O (ItER K a xs.length) H1 (ds.reverse.mapIdx fun i d => .tup [.int (i : Int), d]) := by
  cases r with
  | @lst _ xs _ h h2 hs =>
    have hl := hs.len
    refine ⟨xs, SqL.of h, fun H2 k i hi => ?_, fun H2 k => ?_, fun H2 O' k hO hO2 i d x H3 e y => ?_⟩
    · rw [List.length_mapIdx, List.length_reverse, ← hl] at hi
      exact ⟨xs, SqL.of (k.1 _ _ h2 nt_lst h), rfl, hi⟩
    · exact ⟨xs, SqL.of (k.1 _ _ h2 nt_lst h), rfl, by rw [List.length_mapIdx, List.length_reverse]; omega⟩
    · obtain ⟨T, u, rfl, hT, rfl, hu⟩ := y
      have hi : i < ds.length := by
        obtain ⟨z, _⟩ := List.getElem?_eq_some_iff.mp e
        simpa using z
      rw [List.getElem?_mapIdx, List.getElem?_reverse hi] at e
      have hx := hu xs (SqL.of (k.1 _ _ h2 nt_lst h))
      obtain ⟨d0, h3, h4⟩ := hs.getV hx
      rw [hl] at h3
      rw [h3] at e
      cases e
      exact ⟨upd_newS hT, Rp.newTup hT (.cons (.int _) (.cons (k.rp hO h4) .nil))⟩
theorem si_enumR {X : Cx} {t : Ctx} {R : List Nat} {m : Env → RD} {e : Expr} {p p2 pos pos2 tpos : Pos} {elts : List Expr} {kk : Nat} (hK : t.K.K = X.K) (hg : Gl X "enumerate") (hm : X.mg "enumerate" = none) (hg2 : Gl X "reversed") (hm2 : X.mg "reversed" = none) (h : PE X e (eP t R m)) (hs : starEach [e] X.env = (false, eval e X.env) :: starEach [] X.env := by rfl)
    (hs2 : starEach [.Call (.Name "reversed" p2) [e] [] pos2] X.env = (false, eval (.Call (.Name "reversed" p2) [e] [] pos2) X.env) :: starEach [] X.env := by rfl) :
    PI X (.Tuple elts kk tpos) (.Call (.Name "enumerate" p) [.Call (.Name "reversed" p2) [e] [] pos2] [] pos) (iP t R (iEnumR m)) := by
  refine (pi_enumRU hg hm hg2 hm2 h hs hs2).imp fun σ H Q ⟨B, O, ow, env, re, q⟩ => ⟨B, O, ow, env, re, ?_⟩
  unfold iEnumR at q
  cases qm : m env with
  | ok z =>
    obtain ⟨fr, d⟩ := z
    rw [qm] at q
    intro v H1 s rv
    have r := rv.rp re.odx (O' := OwX O R ow) fun _ z => z
    cases d with
    | lst ds =>
      simp only [Rs.bind_ok] at q
      have : ∃ a, v = .ref a := by
        cases r with
        | lst _ _ _ => exact ⟨_, rfl⟩
      obtain ⟨a, rfl⟩ := this
      obtain ⟨xs, h1, h2⟩ := enumR_walk r
      exact ⟨a, xs, rfl, by rw [← hK]; exact h1, by rw [← hK]; exact q _ H1 s h2⟩
    | _ => exact q.elim
  | ex n a => rw [qm] at q; exact q
  | no => rw [qm] at q; exact q
/-! range with a step -/
def rangeS (lo c : Int) (n : Nat) : List D := (List.range n).map fun (k : Nat) => D.int (lo + (k : Int) * c)
def rangeK3 (x y z : D) : Rs (List D) := match x, y, z with
  | .int i, .int j, .int c => if c ≠ 0 ∧ c.natAbs < 1073741824 ∧ Builtin.Range.small i j c = true then .ok (rangeS i c (Builtin.Range.rangeSize i j c).toNat) else .no
  | _, _, _ => .no
def iRange3 (ma mb mc : Env → RD) : Env → Rs (List D) := fun env => (ma env).bind fun x => (mb env).bind fun y => (mc env).bind fun z => rangeK3 x.2 y.2 z.2
theorem walk_step {K : PySem.W.Frag} {O : Addr → Prop} {H1 : Hp} {lo c : Int} {n : Nat} : WalkOk K O (Itc lo c n) H1 (rangeS lo c n) := by
  have hl : (rangeS lo c n).length = n := by simp [rangeS]
  refine ⟨fun H2 k i hi => by rw [hl] at hi; exact hi, fun H2 k => by rw [hl]; exact Nat.le_refl n, fun H2 O' k hO _ i d x H3 e y => ?_⟩
  obtain ⟨e1, rfl⟩ := y
  subst e1
  refine ⟨Same.refl _, ?_⟩
  simp only [rangeS, List.getElem?_map, Option.map_eq_some_iff] at e
  obtain ⟨k, h1, rfl⟩ := e
  have hi2 : i < n := by
    have := (List.getElem?_eq_some_iff.mp h1).1
    simpa using this
  rw [List.getElem?_range hi2] at h1
  cases h1
  exact .int _
theorem rangeSize_nn (i j c : Int) : Builtin.Range.rangeSize i j c = ((Builtin.Range.rangeSize i j c).toNat : Int) := by
  have : 0 ≤ Builtin.Range.rangeSize i j c := by
    unfold Builtin.Range.rangeSize
    split
    · split
      · have := Int.ediv_nonneg (a := j - i - 1) (b := c) (by omega) (by omega); omega
      · omega
    · split
      · have := Int.ediv_nonneg (a := i - j - 1) (b := -c) (by omega) (by omega); omega
      · omega
  omega
theorem si_range3 {X : Cx} {t : Ctx} {tg a b c : Expr} {Ra Rb Rc : List Nat} {ma mb mc : Env → RD} {p pos : Pos} (hg : Gl X "range") (hm : X.mg "range" = none) (h : PE X a (eP t Ra ma)) (h' : PE X b (eP t Rb mb)) (h'' : PE X c (eP t Rc mc))
    (hs : starEach [a, b, c] X.env = (false, eval a X.env) :: starEach [b, c] X.env := by rfl)
    (hs2 : starEach [b, c] X.env = (false, eval b X.env) :: starEach [c] X.env := by rfl)
    (hs3 : starEach [c] X.env = (false, eval c X.env) :: starEach [] X.env := by rfl)
    (hpl : (backTo pos (starEach [b, c] X.env)).any (·.1) = false := by rfl) :
    PI X tg (.Call (.Name "range" p) [a, b, c] [] pos) (iP t [] (iRange3 ma mb mc)) := by
  refine (pi_range3 hg hm (pa_cons h (pa_cons h' (pa_cons h'' pa_nil hs3) hs2) hs) hs hpl).imp fun σ H Q ⟨B, O, ow, env, re, q⟩ => ?_
  refine ⟨B, O, ow, env, re, ?_⟩
  unfold iRange3 at q
  cases qm : ma env with
  | ok z =>
    obtain ⟨fr, d⟩ := z
    rw [qm] at q
    intro v H1 s rv
    have r := rv.rp re.odx (O' := OwX O Ra ow) fun _ z => z
    refine ⟨B, O, ow, env, re.same s, ?_⟩
    cases qk : mb env with
    | ok z2 =>
      obtain ⟨fr2, d2⟩ := z2
      simp only [Rs.bind_ok, qk] at q
      intro v2 H2 s2 rv2
      have r2 := rv2.rp (re.same s).odx (O' := OwX O Rb ow) fun _ z => z
      refine ⟨B, O, ow, env, (re.same s).same s2, ?_⟩
      cases qc : mc env with
      | ok z3 =>
        obtain ⟨fr3, d3⟩ := z3
        simp only [Rs.bind_ok, qc] at q
        intro v3 H3 s3 rv3
        have r3 := rv3.rp ((re.same s).same s2).odx (O' := OwX O Rc ow) fun _ z => z
        cases d with
        | int i =>
          cases d2 with
          | int j =>
            cases d3 with
            | int k =>
              cases r; cases r2; cases r3
              unfold rangeK3 at q
              by_cases hn : k ≠ 0 ∧ k.natAbs < 1073741824 ∧ Builtin.Range.small i j k = true
              · simp only [if_pos hn] at q
                exact ⟨i, j, k, (Builtin.Range.rangeSize i j k).toNat, rfl, ⟨hn.1, hn.2.1, hn.2.2, rangeSize_nn i j k⟩, q _ H3 ((s.trans s2).trans s3) walk_step⟩
              · simp only [if_neg hn] at q
            | _ => exact q.elim
          | _ => cases d3 <;> exact q.elim
        | _ => cases d2 <;> cases d3 <;> exact q.elim
      | ex n a => simp only [Rs.bind_ok, qc] at q; exact fun C dx H3 s3 z => q C dx H3 ((s.trans s2).trans s3) z
      | no => simp only [Rs.bind_ok, qc] at q; exact q
    | ex n a => simp only [Rs.bind_ok, qk] at q; exact fun C dx H2 s2 z => q C dx H2 (s.trans s2) z
    | no => simp only [Rs.bind_ok, qk] at q; exact q
  | ex n a => rw [qm] at q; exact q
  | no => rw [qm] at q; exact q
end S

/-! list(range(a, b, c)), tuple(range(a, b, c)), tuple(range(a, b)) -/
namespace S
open PySem L2 PySem.Spec PyProof.Rows
def PRgC (X : Cx) (e : Expr) (t : L2.St → Hp → (Int → Int → Int → Hp → Prop) → Prop) : Prop :=
  ∀ (pins : List (Addr × Obj)) (s : Shared) (σ : L2.St) (H : Hp) (Q : Int → Int → Int → Hp → Prop), Inv X pins σ H s → t σ H Q →
    wpAny (model X.prog X.w) X.A (eval e X.env) (fun x s' => ∃ r a b c t u v H', x = .ref r ∧ IsRange s'.heap r a b c t u v ∧ Inv X pins σ H' s' ∧ Q a b c H') X.xe s
def tRgC2 (ta tb : TE) : L2.St → Hp → (Int → Int → Int → Hp → Prop) → Prop := fun σ H Q => ta σ H fun x H1 => tb σ H1 fun y H2 => ∃ i j, x = .int i ∧ y = .int j ∧ Q i j 1 H2
def tRgC3 (ta : TA) : L2.St → Hp → (Int → Int → Int → Hp → Prop) → Prop := fun σ H Q => ta σ H fun vs H1 => ∃ i j k, vs = [.int i, .int j, .int k] ∧ k ≠ 0 ∧ k.natAbs < 1073741824 ∧ Q i j k H1
section
variable {X : Cx}
theorem prgc_2 {a b : Expr} {ta tb : TE} {p pos : Pos} (hg : Gl X "range") (hm : X.mg "range" = none) (ha : PE X a ta) (hb : PE X b tb) (na : starEach [a, b] X.env = (false, eval a X.env) :: starEach [b] X.env := by rfl)
    (nb : starEach [b] X.env = (false, eval b X.env) :: starEach [] X.env := by rfl) (hp : (backTo pos (starEach [b] X.env)).any (·.1) = false := by rfl) : PRgC X (.Call (.Name "range" p) [a, b] [] pos) (tRgC2 ta tb) := by
  intro pins s σ H Q I h
  refine Call_ (ld_blt I hg hm boot_range (PyProof.Rows.callWith_type1 (args_cons (thn (ha.run pins s σ H _ I h) fun v s1 ⟨x, H1, I1, r1, q1⟩ => one_arg hb I1 q1 (fun u s2 y H2 I2 r2 q => ?_) nb) na) na hp))
  obtain ⟨i, j, rfl, rfl, q⟩ := q
  obtain ⟨t, rfl⟩ := r1
  obtain ⟨t', rfl⟩ := r2
  exact call_range_2 ⟨_, i, j, 1, _, _, _, H2, rfl, IsRange.new _ _ _ _ _ _ _, I2.kept fun b u e => Heap.get?_push_of_some _ e, q⟩
theorem prgc_3 {a b c : Expr} {ta : TA} {p pos : Pos} (hg : Gl X "range") (hm : X.mg "range" = none) (ha : PA X [a, b, c] ta)
    (hs : starEach [a, b, c] X.env = (false, eval a X.env) :: starEach [b, c] X.env := by rfl) (hpl : (backTo pos (starEach [b, c] X.env)).any (·.1) = false := by rfl) :
    PRgC X (.Call (.Name "range" p) [a, b, c] [] pos) (tRgC3 ta) := by
  intro pins s σ H Q I h
  refine Call_ (ld_blt I hg hm boot_range (PyProof.Rows.callWith_type1 (thn (ha.run pos pins s σ H _ I h) fun us s1 ⟨vs, H1, I1, r1, q1⟩ => ?_) hs hpl))
  obtain ⟨i, j, k, e, c0, c1, q⟩ := q1
  subst e
  cases r1 with
  | cons r rr =>
    cases rr with
    | cons r' rr =>
      cases rr with
      | cons r'' rr =>
        cases rr
        obtain ⟨t, rfl⟩ := r
        obtain ⟨t', rfl⟩ := r'
        obtain ⟨t'', rfl⟩ := r''
        refine call_range_3 c0 ?_ (.inl (PyProof.noPylong_small c1))
        exact ⟨_, i, j, k, _, _, _, H1, rfl, IsRange.new _ _ _ _ _ _ _, I1.kept fun b u e => Heap.get?_push_of_some _ e, q⟩
/-- the numbers of a range -/
def rgVc (a c : Int) (n : Nat) : List V := (List.range n).map fun i => V.int (a + (i : Nat) * c)
theorem vals_rgc {a c : Int} {n : Nat} {acc : Array Value} (h : ItemsOf (fun i v => ∃ t, v = .int (a + i * c) t) acc n) : Vals (rgVc a c n) acc.toList := by
  have e : acc.toList.length = n := by rw [Array.length_toList]; exact h.1
  unfold rgVc
  rw [← e]
  refine vals_of_get acc.toList _ fun j u hj => ?_
  obtain ⟨t, rfl⟩ := h.2 j u (by rw [← hj, Array.getElem?_toList])
  exact ⟨t, rfl⟩
def RgCk (a b c : Int) (n : Nat) : Prop := Builtin.Range.small a b c = true ∧ Builtin.Range.rangeSize a b c = n ∧ n ≤ 2 ^ 24
def tLstRgC (te : L2.St → Hp → (Int → Int → Int → Hp → Prop) → Prop) : TE := fun σ H Q => te σ H fun a b c H1 => ∃ n, RgCk a b c n ∧ ∀ q, H1 q = none → Q (.ref q) (upd H1 q (.lst (rgVc a c n)))
def tTupRgC (te : L2.St → Hp → (Int → Int → Int → Hp → Prop) → Prop) : TE := fun σ H Q => te σ H fun a b c H1 => ∃ n, RgCk a b c n ∧ ∀ q, H1 q = none → Q (.ref q) (upd H1 q (.tup (rgVc a c n)))
theorem pe_listRgC {e : Expr} {te : L2.St → Hp → (Int → Int → Int → Hp → Prop) → Prop} {p pos : Pos} (hc : X.calm = true) (hg : Gl X "list") (hm : X.mg "list" = none) (he : PRgC X e te) (na : starEach [e] X.env = (false, eval e X.env) :: starEach [] X.env := by rfl) : PE X (.Call (.Name "list" p) [e] [] pos) (tLstRgC te) := by
  refine ⟨fun pins s σ H Q I h => ?_⟩
  refine Call_ (ld_blt I hg hm boot_list (PyProof.Rows.callWith_type1 (args_cons (thn (he pins s σ H _ I h) fun x s1 ⟨r, a, b, c, t, u, v, H1, ex, hr, I1, n, ok, q⟩ => args_nil ?_) na) na))
  subst ex
  obtain ⟨b1, b2, b3⟩ := ok
  refine call_list_range (n := n) (I1.ok.hd hc) hr b1 b2 b3 fun h' tk acc c' hk e' hi => ?_
  refine ⟨.ref s1.heap.objs.size, upd H1 s1.heap.objs.size (.lst (rgVc a c n)), I1.laid hk (Nat.le_refl _) (show ObjOk X.prog X.w _ _ _ (.lst (rgVc a c n)) from ⟨?_, acc.toList, c', vals_rgc hi, ?_⟩), rfl, q _ (I1.hok.fresh (Nat.le_refl _))⟩
  · unfold rgVc; rw [List.length_map, List.length_range, sizeLine_eq]; omega
  · rw [Array.toArray_toList]; exact e'
theorem pe_tupRgC {e : Expr} {te : L2.St → Hp → (Int → Int → Int → Hp → Prop) → Prop} {p pos : Pos} (hc : X.calm = true) (hg : Gl X "tuple") (hm : X.mg "tuple" = none) (he : PRgC X e te) (na : starEach [e] X.env = (false, eval e X.env) :: starEach [] X.env := by rfl) : PE X (.Call (.Name "tuple" p) [e] [] pos) (tTupRgC te) := by
  refine ⟨fun pins s σ H Q I h => ?_⟩
  refine Call_ (ld_blt I hg hm boot_tuple (PyProof.Rows.callWith_type1 (args_cons (thn (he pins s σ H _ I h) fun x s1 ⟨r, a, b, c, t, u, v, H1, ex, hr, I1, n, ok, q⟩ => args_nil ?_) na) na))
  subst ex
  obtain ⟨b1, b2, b3⟩ := ok
  refine call_tuple_range (n := n) (I1.ok.hd hc) hr b1 b2 b3 fun h' tk acc hk hi => ?_
  have I2 : Inv X pins σ H1 { s1 with heap := h', toks := tk } := I1.kept hk
  refine ⟨.ref h'.objs.size, upd H1 h'.objs.size (.tup (rgVc a c n)), I2.laid (t' := tk) (fun c o e => Heap.get?_push_of_some _ e) (Nat.le_refl _) (show ObjOk X.prog X.w _ _ _ (.tup (rgVc a c n)) from ⟨?_, acc.toList, vals_rgc hi, ?_⟩), rfl, q _ (I2.hok.fresh (Nat.le_refl _))⟩
  · unfold rgVc; rw [List.length_map, List.length_range, sizeLine_eq]; omega
  · rw [Array.toArray_toList]; exact IsTup.new _ _
end
theorem rgVc_rp {K : PySem.W.Frag} {H : Hp} {O : Addr → Prop} {a c : Int} {n : Nat} : RpL K H O (rgVc a c n) (rangeS a c n) := by
  unfold rgVc rangeS
  generalize List.range n = l
  induction l with
  | nil => exact .nil
  | cons x l ih => exact .cons (.int _) ih
theorem lfL_rangeS {a c : Int} {n : Nat} : lfL (rangeS a c n) = true := by
  unfold rangeS
  generalize List.range n = l
  induction l with
  | nil => rfl
  | cons x l ih => exact ih
/-- the numbers of a range, read -/
def rgK (x y z : D) : Rs (List D) := match x, y, z with
  | .int i, .int j, .int c => if c ≠ 0 ∧ c.natAbs < 1073741824 ∧ Builtin.Range.small i j c = true ∧ (Builtin.Range.rangeSize i j c).toNat ≤ 2 ^ 24 then .ok (rangeS i c (Builtin.Range.rangeSize i j c).toNat) else .no
  | _, _, _ => .no
def eLr3 (ma mb mc : Env → RD) : Env → RD := fun env => (ma env).bind fun x => (mb env).bind fun y => (mc env).bind fun z => (rgK x.2 y.2 z.2).bind fun l => .ok (true, .lst l)
def eTr3 (ma mb mc : Env → RD) : Env → RD := fun env => (ma env).bind fun x => (mb env).bind fun y => (mc env).bind fun z => (rgK x.2 y.2 z.2).bind fun l => .ok (false, .tup l)
def eTr2 (ma mb : Env → RD) : Env → RD := fun env => (ma env).bind fun x => (mb env).bind fun y => (rgK x.2 y.2 (.int 1)).bind fun l => .ok (false, .tup l)
theorem se_lr3 {X : Cx} {t : Ctx} {a b c : Expr} {Ra Rb Rc : List Nat} {ma mb mc : Env → RD} {p p2 pos pos2 : Pos} (hc : X.calm = true) (hg : Gl X "list") (hm : X.mg "list" = none) (hg' : Gl X "range") (hm' : X.mg "range" = none) (h : PE X a (eP t Ra ma)) (h' : PE X b (eP t Rb mb)) (h'' : PE X c (eP t Rc mc))
    (hs : starEach [a, b, c] X.env = (false, eval a X.env) :: starEach [b, c] X.env := by rfl)
    (hs2 : starEach [b, c] X.env = (false, eval b X.env) :: starEach [c] X.env := by rfl)
    (hs3 : starEach [c] X.env = (false, eval c X.env) :: starEach [] X.env := by rfl)
    (hpl : (backTo pos2 (starEach [b, c] X.env)).any (·.1) = false := by rfl)
    (na2 : starEach [.Call (.Name "range" p2) [a, b, c] [] pos2] X.env = (false, eval (.Call (.Name "range" p2) [a, b, c] [] pos2) X.env) :: starEach [] X.env := by rfl) :
    PE X (.Call (.Name "list" p) [.Call (.Name "range" p2) [a, b, c] [] pos2] [] pos) (eP t [] (eLr3 ma mb mc)) := by
  refine (pe_listRgC hc hg hm (prgc_3 hg' hm' (pa_cons h (pa_cons h' (pa_cons h'' pa_nil hs3) hs2) hs) hs hpl) na2).imp fun σ H Q ⟨B, O, ow, env, re, po⟩ => ⟨B, O, ow, env, re, Post.bind1 po fun fr d v H1 _ s1 rv po1 => ?_⟩
  have r := rv.rp re.odx (O' := OwX O Ra ow) fun _ z => z
  refine ⟨B, O, ow, env, re.same s1, Post.bind1 po1 fun fr2 d2 v2 H2 _ s2 rv2 po2 => ?_⟩
  have r2 := rv2.rp (re.same s1).odx (O' := OwX O Rb ow) fun _ z => z
  refine ⟨B, O, ow, env, (re.same s1).same s2, Post.bind1 po2 fun fr3 d3 v3 H3 _ s3 rv3 po3 => ?_⟩
  have r3 := rv3.rp ((re.same s1).same s2).odx (O' := OwX O Rc ow) fun _ z => z
  cases d with
  | int i =>
    cases d2 with
    | int j =>
      cases d3 with
      | int k =>
        cases r; cases r2; cases r3
        unfold rgK at po3
        by_cases hn : k ≠ 0 ∧ k.natAbs < 1073741824 ∧ Builtin.Range.small i j k = true ∧ (Builtin.Range.rangeSize i j k).toNat ≤ 2 ^ 24
        · simp only [if_pos hn, Rs.bind_ok] at po3
          exact ⟨i, j, k, rfl, hn.1, hn.2.1, (Builtin.Range.rangeSize i j k).toNat, ⟨hn.2.2.1, rangeSize_nn i j k, hn.2.2.2⟩, newLst (((re.same s1).same s2).same s3).odx rgVc_rp (by rw [lfL_rangeS]; exact po3)⟩
        · simp only [if_neg hn, Rs.bind_no] at po3
          exact po3.elim
      | _ => exact po3.elim
    | _ => cases d3 <;> exact po3.elim
  | _ => cases d2 <;> cases d3 <;> exact po3.elim
theorem se_tr3 {X : Cx} {t : Ctx} {a b c : Expr} {Ra Rb Rc : List Nat} {ma mb mc : Env → RD} {p p2 pos pos2 : Pos} (hc : X.calm = true) (hg : Gl X "tuple") (hm : X.mg "tuple" = none) (hg' : Gl X "range") (hm' : X.mg "range" = none) (h : PE X a (eP t Ra ma)) (h' : PE X b (eP t Rb mb)) (h'' : PE X c (eP t Rc mc))
    (hs : starEach [a, b, c] X.env = (false, eval a X.env) :: starEach [b, c] X.env := by rfl)
    (hs2 : starEach [b, c] X.env = (false, eval b X.env) :: starEach [c] X.env := by rfl)
    (hs3 : starEach [c] X.env = (false, eval c X.env) :: starEach [] X.env := by rfl)
    (hpl : (backTo pos2 (starEach [b, c] X.env)).any (·.1) = false := by rfl)
    (na2 : starEach [.Call (.Name "range" p2) [a, b, c] [] pos2] X.env = (false, eval (.Call (.Name "range" p2) [a, b, c] [] pos2) X.env) :: starEach [] X.env := by rfl) :
    PE X (.Call (.Name "tuple" p) [.Call (.Name "range" p2) [a, b, c] [] pos2] [] pos) (eP t [] (eTr3 ma mb mc)) := by
  refine (pe_tupRgC hc hg hm (prgc_3 hg' hm' (pa_cons h (pa_cons h' (pa_cons h'' pa_nil hs3) hs2) hs) hs hpl) na2).imp fun σ H Q ⟨B, O, ow, env, re, po⟩ => ⟨B, O, ow, env, re, Post.bind1 po fun fr d v H1 _ s1 rv po1 => ?_⟩
  have r := rv.rp re.odx (O' := OwX O Ra ow) fun _ z => z
  refine ⟨B, O, ow, env, re.same s1, Post.bind1 po1 fun fr2 d2 v2 H2 _ s2 rv2 po2 => ?_⟩
  have r2 := rv2.rp (re.same s1).odx (O' := OwX O Rb ow) fun _ z => z
  refine ⟨B, O, ow, env, (re.same s1).same s2, Post.bind1 po2 fun fr3 d3 v3 H3 _ s3 rv3 po3 => ?_⟩
  have r3 := rv3.rp ((re.same s1).same s2).odx (O' := OwX O Rc ow) fun _ z => z
  cases d with
  | int i =>
    cases d2 with
    | int j =>
      cases d3 with
      | int k =>
        cases r; cases r2; cases r3
        unfold rgK at po3
        by_cases hn : k ≠ 0 ∧ k.natAbs < 1073741824 ∧ Builtin.Range.small i j k = true ∧ (Builtin.Range.rangeSize i j k).toNat ≤ 2 ^ 24
        · simp only [if_pos hn, Rs.bind_ok] at po3
          exact ⟨i, j, k, rfl, hn.1, hn.2.1, (Builtin.Range.rangeSize i j k).toNat, ⟨hn.2.2.1, rangeSize_nn i j k, hn.2.2.2⟩, newTup rgVc_rp po3⟩
        · simp only [if_neg hn, Rs.bind_no] at po3
          exact po3.elim
      | _ => exact po3.elim
    | _ => cases d3 <;> exact po3.elim
  | _ => cases d2 <;> cases d3 <;> exact po3.elim
theorem se_tr2 {X : Cx} {t : Ctx} {a b : Expr} {Ra Rb : List Nat} {ma mb : Env → RD} {p p2 pos pos2 : Pos} (hc : X.calm = true) (hg : Gl X "tuple") (hm : X.mg "tuple" = none) (hg' : Gl X "range") (hm' : X.mg "range" = none) (h : PE X a (eP t Ra ma)) (h' : PE X b (eP t Rb mb))
    (hs : starEach [a, b] X.env = (false, eval a X.env) :: starEach [b] X.env := by rfl)
    (hs2 : starEach [b] X.env = (false, eval b X.env) :: starEach [] X.env := by rfl)
    (hpl : (backTo pos2 (starEach [b] X.env)).any (·.1) = false := by rfl)
    (na2 : starEach [.Call (.Name "range" p2) [a, b] [] pos2] X.env = (false, eval (.Call (.Name "range" p2) [a, b] [] pos2) X.env) :: starEach [] X.env := by rfl) :
    PE X (.Call (.Name "tuple" p) [.Call (.Name "range" p2) [a, b] [] pos2] [] pos) (eP t [] (eTr2 ma mb)) := by
  refine (pe_tupRgC hc hg hm (prgc_2 hg' hm' h h' hs hs2 hpl) na2).imp fun σ H Q ⟨B, O, ow, env, re, po⟩ => ⟨B, O, ow, env, re, Post.bind1 po fun fr d v H1 _ s1 rv po1 => ?_⟩
  have r := rv.rp re.odx (O' := OwX O Ra ow) fun _ z => z
  refine ⟨B, O, ow, env, re.same s1, Post.bind1 po1 fun fr2 d2 v2 H2 _ s2 rv2 po2 => ?_⟩
  have r2 := rv2.rp (re.same s1).odx (O' := OwX O Rb ow) fun _ z => z
  cases d with
  | int i =>
    cases d2 with
    | int j =>
      cases r; cases r2
      unfold rgK at po2
      by_cases hn : (1 : Int) ≠ 0 ∧ (1 : Int).natAbs < 1073741824 ∧ Builtin.Range.small i j 1 = true ∧ (Builtin.Range.rangeSize i j 1).toNat ≤ 2 ^ 24
      · simp only [if_pos hn, Rs.bind_ok] at po2
        exact ⟨i, j, rfl, rfl, (Builtin.Range.rangeSize i j 1).toNat, ⟨hn.2.2.1, rangeSize_nn i j 1, hn.2.2.2⟩, newTup rgVc_rp po2⟩
      · simp only [if_neg hn, Rs.bind_no] at po2
        exact po2.elim
    | _ => exact po2.elim
  | _ => cases d2 <;> exact po2.elim
end S

/-! try: an expression / except C as n: x = .. / ..; in a def with arguments -/
namespace S
open PySem PySem.Spec PyProof.Rows L2
/-- what is told of the exception is put at slot i; nothing else is kept -/
def mTryK (f : HowT) (N i : Nat) (r : RD) (env : Env) : Out := match r with
  | .ok _ => .nx env
  | .ex n a => match f n a with
    | some d => .nx ((List.replicate N none).set i (some (false, d)))
    | none => .no
  | .no => .no
def mTryS (f : HowT) (N i : Nat) (m : Env → RD) : Env → Out := fun env => mTryK f N i (m env) env
section
variable {X : Cx} {T : List (Addr × Str)} {f : HowT}
def tsSetN (K : KT) (mg : Str → Option Value) (f : HowT) (N i j : Nat) (a : Addr) (cls : Value) (dx : Option Addr) : TS := fun D σ H => ∃ n C b d, cls = .ref C ∧ mg n = some (.ref C) ∧ AtOk K H dx b ∧ f n b = some d ∧ LamX.Tabs K.T H ∧ (∃ σ' : L2.St, σ = σ'.set j (some (.ref a))) ∧ ∀ σ2 v H', Sm K.T H H' → σ2.length = N → σ2[i]? = some (some v) → Rp K H' Nob v d → D.nx σ2 H'
inductive HowClN (X : Cx) (T : List (Addr × Str)) (f : HowT) (en : Str) (N i j : Nat) : List ExceptHandler → List Addr → Prop
  | nil : HowClN X T f en N i j [] []
  | cons {wn : Str} {W : Addr} {b0 : Stmt} {su : List Stmt} {p4 p5 : Pos} {hs : List ExceptHandler} {l : List Addr} (hge : Gl X wn) (hme : X.mg wn = some (.ref W)) (hde : (wn == ("__debug__" : Str)) = false)
      (hsu : ∀ (n : Str) (b : Option D) (d : D) (C : Addr), f n b = some d → X.mg n = some (.ref C) → PySem.W.exmOne X.K (.ref C) (.ref W) = some true → ∀ (ae : Addr) (dx : Option Addr) (xv : V) (oe : Obj) (pn : List (Addr × Obj)), Held b dx xv → Zc (.ref C) dx oe → (∃ vs, oe.data = .fields vs) →
        ∃ m, PSs (X.suite ae ((ae, oe) :: pn)) (b0 :: su) (sP ⟨⟨X.K, T⟩, X.mg, C8.E0⟩ m) ∧ m ((List.replicate N none).set j (some (false, .raw ae dx xv))) = .nx (((List.replicate N none).set i (some (false, d))).set j (some (false, .raw ae dx xv)))) (r : HowClN X T f en N i j hs l) : HowClN X T f en N i j (.ExceptHandler (some (.Name wn p4)) (some en) (b0 :: su) p5 :: hs) (W :: l)
theorem HowClN.clauses {en : Str} {N i j : Nat} (hN : X.N.length = N) (hi : i < N) (hij : i ≠ j) (hat : ∀ n d r, f n (some d) = some r → atD d = true) : ∀ {hs : List ExceptHandler} {l : List Addr}, HowClN X T f en N i j hs l → Clauses X en hs (l.map fun W => (.ref W, fun ae cls dx D σ H => PySem.W.exmOne X.K cls (.ref W) = some true ∧ tsSetN ⟨X.K, T⟩ X.mg f N i j ae cls dx D σ H))
  | _, _, .nil => .nil
  | _, _, .cons hge hme hde hsu r => by
    refine .cons ⟨hge, hde, .inl hme⟩ (fun ae oe cls dx pn hz hf => ⟨fun pins s' σ H' D I h' => ?_⟩) (r.clauses hN hi hij hat)
    obtain ⟨hx0, n, C, b, d', rfl, h1, h2, h3, h4, ⟨σ', h5⟩, h6⟩ := h'
    obtain ⟨xv, hd, hx⟩ := h2.held fun e he => hat n e d' (by rw [← he]; exact h3)
    obtain ⟨m, hm, he⟩ := hsu n b d' C h3 h1 hx0 ae dx xv oe pn hd hz hf
    have hl : σ.length = N := by rw [← hN]; exact I.len
    have re := re_held (K := ⟨X.K, T⟩) (n := N) hl h4 h5 hx
    exact hm.run pins s' σ H' D I ⟨H', fun _ => False, fun _ => [], _, re, by
      rw [he]
      intro ow σ2 H2 re2
      have hg : (((List.replicate N (none : Option (Bool × S.D))).set i (some (false, d'))).set j (some (false, .raw ae dx xv)))[i]? = some (some (false, d')) := by
        rw [List.getElem?_set_ne (Ne.symm hij)]
        exact List.getElem?_set_self (by simpa using hi)
      obtain ⟨v, q1, q2⟩ := re2.fz i d' hg
      exact h6 σ2 v H2 re2.ext (by rw [re2.len]; simp) q1 (Rp.mono (fun _ z => .inl z.elim) q2)⟩
theorem roomH_mk {k : Nat} {A : Around} {v : Option Value} (r : L2.Room k A) (h : 1 ≤ k) : L2H.RoomH 1 (A.mark v) := ⟨(r.mono h).dp, (r.mono h).un⟩
theorem ss_tryD {t : Ctx} {en : Str} {N i j : Nat} {e : Expr} {R : List Nat} {m : Env → RD} {h0 : ExceptHandler} {hs : List ExceptHandler} {l : List Addr} {pos p3 : Pos}
    (hK : t.K = ⟨X.K, T⟩) (hmg : t.mg = X.mg) (est : X.stack = X.env :: X.outer) (efr : X.env.frame = some X.env.locals) (nd : X.N.Nodup) (hN : X.N.length = N) (hi : i < N) (ej : X.N[j]? = some en) (eln : X.env.kindOf en = some .local) (hij : i ≠ j)
    (he : ∀ (pn : List (Addr × Obj)) (xe : Value → Shared → Prop) (E : XK), Passes (L2.CX X.prog X.w) (X.tr pn xe) E → PE (X.tr pn xe) e (eP ⟨t.K, t.mg, E⟩ R m))
    (hat : ∀ n d r, f n (some d) = some r → atD d = true) (hlf : ∀ n b d, f n b = some d → lf d = true)
    (hcl : HowClN X T f en N i j (h0 :: hs) l)
    (hsv : ∀ (n : Str) (b : Option D) (d : D) (C : Addr), f n b = some d → X.mg n = some (.ref C) → Serves X.K l C)
    (hsw : ∀ (pn : List (Addr × Obj)) (xe : Value → Shared → Prop), swapsWith e none p3.line (X.tr pn xe).env = pure false := by intros; rfl) :
    PS X (.Try [.Expr e p3] (h0 :: hs) [] [] pos) (sP t (mTryS f N i m)) := by
  have hcs := hcl.clauses (X := X) (T := T) (f := f) hN hi hij hat
  refine (ps_try_clauses (X := X) (i := j) (Wout := fun _ _ _ _ => False)
      (tb := fun W D σ H => ∃ Ech : XK, (∀ cls d σ' H', Ech cls d H' → W cls d σ' H') ∧ eP ⟨t.K, t.mg, Ech⟩ R m σ H fun _ H1 => D.nx σ H1)
      est efr nd ej eln L2.takes0 (fun W pn xe tk _ => ?_) hcs).imp fun D σ H ⟨B, O, ow, env, re, po⟩ => ?_
  · refine ⟨fun pins s' σ H' D I h' => ?_⟩
    obtain ⟨Ech, hW, h1⟩ := h'
    exact (pss_one (ps_expr (pos := p3) (he pn xe Ech (passes_call tk hW)) (hsw pn xe))).run pins s' σ H' D I h1
  · refine ⟨fun cls dx H' => ∃ n a C, cls = .ref C ∧ Sm t.K.T H H' ∧ IsExc t n a C dx H' ∧ ∃ d, f n a = some d ∧ OutOk t B O D (.nx ((List.replicate N none).set i (some (false, d)))), fun cls dx σ' H' hE => ?_, B, O, ow, env, re, ?_⟩
    · obtain ⟨n, a, C, rfl, sm, ⟨e1, e2⟩, d, hf, ho⟩ := hE
      refine serves_w (X := X) (F := fun W => (.ref W, fun ae cls dx D σ H => PySem.W.exmOne X.K cls (.ref W) = some true ∧ tsSetN ⟨X.K, T⟩ X.mg f N i j ae cls dx D σ H)) (fun W => rfl) (fun W hW ae hae => ⟨hW, n, C, a, d, rfl, by rw [← hmg]; exact e1, ?_, hf, ?_, ⟨σ', rfl⟩, fun σ2 v H2 sm2 l2 g2 rv => ?_⟩) (hsv n a d C hf (by rw [← hmg]; exact e1))
      · cases a with
        | none => exact e2
        | some d' => rw [hK] at e2; exact e2
      · have := sm.tabs re.tabs
        rw [hK] at this
        exact this
      · have hT : t.K.T = T := by rw [hK]
        have sm2 : Sm t.K.T H' H2 := by rw [hT]; exact sm2
        refine ho (fun _ => []) (σ2.set j none) H2 ⟨by rw [List.length_set, List.length_set, List.length_replicate, l2], (re.ext.trans sm).trans sm2, (sm.trans sm2).tabs re.tabs, re.dom, fun k dd hk => ?_, fun k dd hk => ?_, fun k b z => (nomatch z), fun k k' b z => (nomatch z)⟩
        · rcases set_get hk with ⟨rfl, e3, _⟩ | ⟨ne, e3⟩
          · cases e3
            refine ⟨v, by rw [List.getElem?_set_ne (Ne.symm hij)]; exact g2, ?_⟩
            rw [hK]
            exact Rp.free (hlf n a _ hf) rv
          · rw [List.getElem?_replicate] at e3
            split at e3 <;> cases e3
        · rcases set_get hk with ⟨rfl, e3, _⟩ | ⟨ne, e3⟩
          · cases e3
          · rw [List.getElem?_replicate] at e3
            split at e3 <;> cases e3
    · unfold mTryS at po
      cases q : m env with
      | ok r =>
        obtain ⟨fr, d⟩ := r
        rw [q] at po
        exact fun v H1 s1 rv => po ow σ H1 (re.same s1)
      | no => rw [q] at po; exact po
      | ex n a =>
        rw [q] at po
        unfold mTryK at po
        cases ql : f n a with
        | none => simp only [ql] at po; exact po.elim
        | some d =>
          simp only [ql] at po
          exact fun C dx H' sm hx => ⟨n, a, C, rfl, sm, hx, d, ql, po⟩
end
end S

/-! x[k] = e, where e may be a list that stands elsewhere: nothing of it is own any more -/
namespace S
open PySem L2 PySem.Spec PyProof.Rows
def mStoreF (i : Nat) (R : List Nat) (mi mv : Env → RD) : Env → Out := fun env => match env[i]? with
  | some (some (true, .lst ds)) => mOf (mv env) fun _ d => mOf (mi env) fun _ q => match q with
    | .int k => if lfL ds = true then match ixN ds.length k with
      | some p => .nx ((frz (i :: R) env).set i (some (false, .lst (ds.set p d))))
      | none => .no
      else .no
    | _ => .no
  | _ => .no
theorem rp_lf {K : PySem.W.Frag} {H : Hp} {O : Addr → Prop} {v : V} {d : D} (r : Rp K H O v d) : ∃ d0, lf d0 = true ∧ Rp K H O v d0 := by
  cases r with
  | non => exact ⟨_, rfl, .non⟩
  | bl b => exact ⟨_, rfl, .bl b⟩
  | int i => exact ⟨_, rfl, .int i⟩
  | str s => exact ⟨_, rfl, .str s⟩
  | raw h => exact ⟨_, rfl, .raw h⟩
  | scr h => exact ⟨_, rfl, .scr h⟩
  | @lst a _ _ _ _ _ => exact ⟨.raw a none .non, rfl, .raw nofun⟩
  | @tup a _ _ _ _ => exact ⟨.raw a none .non, rfl, .raw nofun⟩
  | @dct a _ _ _ _ _ => exact ⟨.raw a none .non, rfl, .raw nofun⟩
theorem frz_set {i : Nat} {x y : Option (Bool × D)} : ∀ (R : List Nat) (env : Env), (frz R (env.set i x)).set i y = (frz R env).set i y
  | [], env => by show (env.set i x).set i y = env.set i y; rw [List.set_set]
  | r :: R, env => by
    have ih := frz_set (i := i) (x := x) (y := y) R env
    show ((frz R (env.set i x)).modify r _).set i y = ((frz R env).modify r _).set i y
    generalize frz R (env.set i x) = A at ih ⊢
    generalize frz R env = B at ih ⊢
    apply List.ext_getElem?
    intro j
    have hj := congrArg (fun l => l[j]?) ih
    have hl := congrArg List.length ih
    simp only [List.length_set] at hl
    simp only [List.getElem?_set, List.getElem?_modify, List.length_modify, hl] at hj ⊢
    by_cases c : i = j
    · simp only [c, if_true]
    · simp only [c, if_false] at hj ⊢
      rw [hj]
theorem ss_storeF {X : Cx} {t : Ctx} {i : Nat} {R R' : List Nat} {m m' : Env → RD} {e k : Expr} {x : Str} {p p2 pos : Pos} (hu : X.A.units + 64 < cLine) (hiR : i ∉ R) (hx : PE X (.Name x p) (tVar i)) (hk : PE X k (eP t R' m')) (he : PE X e (eP t R m))
    (ha : ∀ v, assign (.Subscript (.Name x p) k p2) X.env v = (do
      let ov ← holding [v] (eval (.Name x p) X.env)
      let iv ← holding [v, ov] (eval k X.env)
      standAt p2
      holding [v, ov, iv] (setItem ov iv v)
      release [v, ov, iv] []) := by intro _; rfl)
    (hs : swapsWithSole [.Subscript (.Name x p) k p2] e pos.line X.env = pure false := by rfl) (hw : swappedStores [.Subscript (.Name x p) k p2] e X.env = pure none := by rfl)
    (h1 : (assignEach [.Subscript (.Name x p) k p2] X.env).map (·.2) = [assign (.Subscript (.Name x p) k p2) X.env] := by rfl) : PS X (.Assign [.Subscript (.Name x p) k p2] e pos) (sP t (mStoreF i R m' m)) := by
  refine (ps_asg he (pg_sub hx hk (set_U hu) ha) hs hw h1).imp fun D σ H ⟨B, O, ow, env, re, o⟩ => ?_
  unfold mStoreF at o
  split at o
  case h_2 => exact o.elim
  rename_i ds e0
  refine ⟨B, O, ow, env, re, mOf_read re.ext o fun fr d v H1 s rv o1 => ?_⟩
  have re1 := re.same s
  obtain ⟨a, xs, F, hv, hw', ha', T, hn, hi⟩ := re1.lst e0
  refine ⟨.ref a, hv, B, O, ow, env, re1, mOf_read re1.ext o1 fun fr2 d2 v2 H2 s2 rv2 o2 => ?_⟩
  have r2 := rv2.rp re1.odx (O' := OwX O R' ow) fun _ z => z
  cases r2 with
  | int k =>
    simp only at o2
    by_cases hl : lfL ds = true
    · simp only [if_pos hl] at o2
      cases hp : ixN ds.length k with
      | none => simp only [hp] at o2; exact o2.elim
      | some p =>
        simp only [hp] at o2
        have r0 : Rp t.K H2 (OwX O R ow) v d := (rv.rp re.odx (O' := OwX O R ow) fun _ z => z).same s2
        obtain ⟨d0, hd0, rd0⟩ := rp_lf r0
        have re2 := re1.same s2
        have ha2 := s2.keep _ _ nt_lst ha'
        have rl : RpL t.K H2 O (xs.set p v) (ds.set p d0) := RpL.set (Rp.free hd0 rd0) p ((re1.items hw' T).same s2)
        have hlf : lfL (ds.set p d0) = true := lfL_set hl hd0 p
        have T2 : TrL t.K (upd H2 a (.lst (xs.set p v))) [] (xs.set p v) (ds.set p d0) := (rl.tr hlf).carry (fun b m => nomatch m) (firm_upd (Sm.refl (T := t.K.T) H2) ha2 trivial)
        have tr : Tr t.K (upd H2 a (.lst (xs.set p v))) [a] (.ref a) (.lst (ds.set p d0)) := .lst upd_same T2 (fun z => nomatch z)
        have re3 := re2.mutate (i := i) (d := .lst ds) (H' := upd H2 a (.lst (xs.set p v))) hv hi (fun b u n nt e => by rw [upd_ne (fun z => n (by rw [hw', z]; exact List.mem_cons_self))]; exact e) (tabs_upd ha2 trivial re2.tabs) tr (fun b m => .inl (by rw [hw', List.mem_singleton.mp m]; exact List.mem_cons_self))
        have re4 := re3.freeze (i :: R)
        have barred : OwX O R ow a := .inr ⟨i, hiR, by rw [hw']; exact List.mem_cons_self⟩
        have notO : ¬ Ow O (owSet (owLess (owSet ow i [a]) (i :: R)) i []) a := by
          rintro (z | ⟨j, z⟩)
          · exact re2.notO (i := i) (by rw [hw']; exact List.mem_cons_self) z
          · rcases mem_owSet z with ⟨_, z⟩ | ⟨ne, z⟩
            · cases z
            · obtain ⟨_, z⟩ := mem_owLess z
              rcases mem_owSet z with ⟨rfl, _⟩ | ⟨_, z⟩
              · exact ne rfl
              · exact ne (re2.inj j i a z (by rw [hw']; exact List.mem_cons_self))
        have less : ∀ b, Ow O (owSet (owLess (owSet ow i [a]) (i :: R)) i []) b → OwX O R ow b := by
          rintro b (z | ⟨j, z⟩)
          · exact .inl z
          · rcases mem_owSet z with ⟨_, z⟩ | ⟨ne, z⟩
            · cases z
            · obtain ⟨hj, z⟩ := mem_owLess z
              rcases mem_owSet z with ⟨rfl, _⟩ | ⟨_, z⟩
              · exact (ne rfl).elim
              · exact .inr ⟨j, fun q => hj (List.mem_cons_of_mem _ q), z⟩
        have rd : Rp t.K (upd H2 a (.lst (xs.set p v))) (Ow O (owSet (owLess (owSet ow i [a]) (i :: R)) i [])) v d :=
          r0.carry (fun b z => .inl (less b z)) (fun b u nb nt e => by rw [upd_ne (fun z => nb (by rw [z]; exact barred))]; exact e) (firm_upd (Sm.refl (T := t.K.T) H2) ha2 trivial)
        have rx : RpL t.K (upd H2 a (.lst (xs.set p v))) (Ow O (owSet (owLess (owSet ow i [a]) (i :: R)) i [])) xs ds :=
by
          have tx : TrL t.K H2 [] xs ds := ((re1.items hw' T).same s2).tr hl
          have tx2 : TrL t.K (upd H2 a (.lst (xs.set p v))) [] xs ds := tx.carry (fun b m => nomatch m) (firm_upd (Sm.refl (T := t.K.T) H2) ha2 trivial)
          exact tx2.rp (O := Ow O (owSet (owLess (owSet ow i [a]) (i :: R)) i [])) (fun b m => by cases m)
        have rf : Rp t.K (upd H2 a (.lst (xs.set p v))) (Ow O (owSet (owLess (owSet ow i [a]) (i :: R)) i [])) (.ref a) (.lst (ds.set p d)) := .lst upd_same notO (RpL.set rd p rx)
        have re5 := re4.putF (i := i) (Sm.refl _) rf
        have hσ : σ.set i (some (.ref a)) = σ := by
          apply List.ext_getElem?
          intro j
          rw [List.getElem?_set]
          by_cases c : i = j
          · subst c
            obtain ⟨hlt, _⟩ := List.getElem?_eq_some_iff.mp hv
            rw [if_pos rfl, if_pos hlt, hv]
          · rw [if_neg c]
        rw [hσ, frz_set] at re5
        exact .inl ⟨a, xs, k, p, rfl, rfl, ha2, by rw [T.len]; exact hp, o2 _ σ _ re5⟩
    · simp only [if_neg hl] at o2; exact o2.elim
  | _ => exact o2.elim
end S

/-! x, y = s.pop(), s.pop(); s.append((e + s.pop()[0], c)) -/
namespace S
open PySem L2 PySem.Spec PyProof.Rows
def mPop2 (j k i : Nat) : Env → Out := fun env => match env[i]? with
  | some (some (true, .lst ds)) => if lfL ds = true then (match ds.getLast? with
    | some d => match ds.dropLast.getLast? with
      | some c => .nx (((env.set i (some (true, .lst ds.dropLast.dropLast))).set j (some (false, d))).set k (some (false, c)))
      | none => .no
    | none => .no) else .no
  | _ => .no
def mAppPop (i : Nat) (m : Env → RD) (c : D) : Env → Out := fun env => match env[i]? with
  | some (some (true, .lst ds)) => mOf (m env) fun _ d => match d with
    | .tup as => match ds.getLast? with
      | some (.tup (.tup xs :: r)) => if (lfL ds = true ∧ lfL as = true ∧ lf c = true) ∧ as.length + xs.length ≤ sizeLine ∧ ds.length ≤ sizeLine then .nx (env.set i (some (true, .lst (ds.dropLast ++ [.tup [.tup (as ++ xs), c]])))) else .no
      | _ => .no
    | _ => .no
  | _ => .no
section
variable {X : Cx} {t : Ctx} {i : Nat} {R R' : List Nat} {m m' : Env → RD} {call call2 : Expr} {pos : Pos}
theorem pop_readF {B H : Hp} {O : Addr → Prop} {ow : Nat → List Addr} {σ : L2.St} {env : Env} {ds : List S.D} {d : S.D} {Q : VK} {K : PySem.W.Frag} (hK : t.K = K) (re : RE t.K B O ow σ H env) (e : env[i]? = some (some (true, .lst ds))) (hl : lfL ds = true) (hd : ds.getLast? = some d)
    (k : ∀ v a ow' H1, σ[i]? = some (some (.ref a)) → Tr t.K H1 [] v d → Firm H H1 → RE t.K B O ow' σ H1 (env.set i (some (true, .lst ds.dropLast))) → Q v H1) : tBM0 K "list" rPop (tVar i) σ H Q := by
  obtain ⟨a, xs, F, hv, hw, ha, T, hn, hi⟩ := re.lst e
  have ri := re.items hw T
  obtain ⟨v, h1, h2⟩ := ri.get (getLast_at hd)
  have hdl : lfL ds.dropLast = true := by rw [List.dropLast_eq_take]; exact lfL_take hl _
  have hx : ds.dropLast = ds.take (ds.length - 1) := List.dropLast_eq_take
  have hxs : xs.dropLast = xs.take (ds.length - 1) := by rw [List.dropLast_eq_take, T.len]
  have rd : RpL t.K H O xs.dropLast ds.dropLast := by rw [hx, hxs]; exact ri.take _
  obtain ⟨ow', re'⟩ := re.put (Sm.refl H) hv hw ha hi rd hdl
  have hld : lf d = true := by
    rw [lfL_all] at hl
    exact List.all_eq_true.mp hl d (List.mem_of_getLast? hd)
  have f : Firm H (upd H a (.lst xs.dropLast)) := firm_upd (Sm.refl (T := []) H) ha trivial
  refine ⟨.ref a, hv, tyL ha, a, xs, v, rfl, rfl, ha, by rw [T.len]; exact h1, k v a ow' _ hv ?_ f re'⟩
  have T0 : Tr t.K H [] v d := h2.tr hld
  exact T0.carry (fun b m => absurd m (by simp)) f
theorem atI_at0 {α : Type} {x : α} {r : List α} : atI (x :: r) 0 = some x := by
  unfold atI ixN
  rw [if_pos (by decide), if_pos (by simp)]; rfl
theorem rp_of0 {K : PySem.W.Frag} {H : Hp} {O : Addr → Prop} {v : V} {d : D} (h : Tr K H [] v d) : Rp K H O v d := h.rp fun b m => absurd m (by simp)
theorem ss_pop2 {j k : Nat} {x y : Str} {px py pt pt2 : Pos} {kt k2 : _} (hK : t.K.K = X.K) (hc : X.calm = true) (hN : X.N.Nodup) (hj : X.N[j]? = some x) (hk : X.N[k]? = some y) (hjk : j ≠ k) (hx : X.env.scope.names.lookup x = some .local) (hy : X.env.scope.names.lookup y = some .local)
    (ha : PE X call (tBM0 X.K "list" rPop (tVar i))) (hb : PE X call2 (tBM0 X.K "list" rPop (tVar i)))
    (hw : swappedStores [.Tuple [.Name x px, .Name y py] kt pt] (.Tuple [call, call2] k2 pt2) X.env = pure (some [x, y]))
    (h1 : starEach [call, call2] X.env = (false, eval call X.env) :: starEach [call2] X.env := by rfl) (h2 : starEach [call2] X.env = (false, eval call2 X.env) :: starEach [] X.env := by rfl)
    (hs : swapsWithSole [.Tuple [.Name x px, .Name y py] kt pt] (.Tuple [call, call2] k2 pt2) pos.line X.env = pure false := by rfl) :
    PS X (.Assign [.Tuple [.Name x px, .Name y py] kt pt] (.Tuple [call, call2] k2 pt2) pos) (sP t (mPop2 j k i)) := by
  refine (ps_par hc hN hj hk hjk hx hy (pa_cons ha (pa_cons hb pa_nil h2) h1) hw hs).imp fun D σ H ⟨B, O, ow, env, re, o⟩ => ?_
  unfold mPop2 at o
  split at o
  case h_2 => exact o.elim
  rename_i ds e
  by_cases hl : lfL ds = true
  case neg => simp only [if_neg hl] at o; exact o.elim
  simp only [if_pos hl] at o
  cases hd : ds.getLast? with
  | none => simp only [hd] at o; exact o.elim
  | some d =>
    simp only [hd] at o
    cases hd2 : ds.dropLast.getLast? with
    | none => simp only [hd2] at o; exact o.elim
    | some c =>
      simp only [hd2] at o
      have hdl : lfL ds.dropLast = true := by rw [List.dropLast_eq_take]; exact lfL_take hl _
      have hi : i < env.length := (List.getElem?_eq_some_iff.mp e).1
      refine pop_readF hK re e hl hd fun v a ow1 H1 hv T1 f1 re1 => ?_
      have e1 : (env.set i (some (true, .lst ds.dropLast)))[i]? = some (some (true, .lst ds.dropLast)) := by simp [hi]
      refine pop_readF hK re1 e1 hdl hd2 fun w a2 ow2 H2 hv2 T2 f2 re2 => ?_
      rw [List.set_set] at re2
      have T1' : Tr t.K H2 [] v d := T1.carry (fun b m => absurd m (by simp)) f2
      have re3 := re2.putF (i := j) (Sm.refl _) (rp_of0 T1')
      have re4 := re3.putF (i := k) (Sm.refl _) (rp_of0 T2)
      exact ⟨v, w, rfl, o _ _ _ re4⟩
theorem ss_appPop {c : D} {cv : V} (hK : t.K.K = X.K) (hcr : ∀ H O, Rp t.K H O cv c)
    (h : PE X call (tBM X.K "list" rAppend (tVar i) (tCons (tTup (tCons (tOp (rAddU t.K) (eP t R m) (tOp (rIx t.K) (tBM0 X.K "list" rPop (tVar i)) (tC (.int 0)))) (tCons (tC cv) tNil))) tNil)))
    (hs : swapsWith call none pos.line X.env = pure false := by rfl) : PS X (.Expr call pos) (sP t (mAppPop i m c)) := by
  refine (ps_expr h hs).imp fun D σ H ⟨B, O, ow, env, re, o⟩ => ?_
  unfold mAppPop at o
  split at o
  case h_2 => exact o.elim
  rename_i ds e
  obtain ⟨a, xs0, F, hv, hw, ha, T, hn, hi⟩ := re.lst e
  refine ⟨.ref a, hv, tyL ha, ?_⟩
  refine ⟨B, O, ow, env, re, mOf_read re.ext o fun fr d v H1 s rv o1 => ?_⟩
  have r1 := rv.rp re.odx (O' := OwX O R ow) fun _ z => z
  cases d with
  | tup as =>
    simp only at o1
    split at o1
    case h_2 => exact o1.elim
    rename_i xs r hd
    by_cases hc : (lfL ds = true ∧ lfL as = true ∧ lf c = true) ∧ as.length + xs.length ≤ sizeLine ∧ ds.length ≤ sizeLine
    case neg => simp only [if_neg hc] at o1; exact o1.elim
    simp only [if_pos hc] at o1
    obtain ⟨⟨hl, hla, hlc⟩, hz, hz2⟩ := hc
    have re1 := re.same s
    refine pop_readF hK re1 e hl hd fun w a2 ow2 H2 hv2 T2 f2 re2 => ?_
    have Tv : Tr t.K H1 [] v (.tup as) := r1.tr (by simpa [lf] using hla)
    have Tv2 : Tr t.K H2 [] v (.tup as) := Tv.carry (fun b m => absurd m (by simp)) f2
    have hld : lfL (.tup xs :: r) = true := by
      rw [lfL_all] at hl
      have := List.all_eq_true.mp hl _ (List.mem_of_getLast? hd)
      simpa [lf] using this
    have hlx : lfL xs = true := by
      simp only [lfL, lf, Bool.and_eq_true] at hld
      exact hld.1
    have e2 : (env.set i (some (true, .lst ds.dropLast)))[i]? = some (some (true, .lst ds.dropLast)) := by simp [hi]
    refine ok_ix H2 Nob w (.int 0) (.tup (.tup xs :: r)) (.int 0) _ (fun _ z => z.elim) (rp_of0 T2) (.int 0) ?_
    have eg : gIx (.tup (.tup xs :: r)) (.int 0) = .ok (false, .tup xs) := by
      have : atI (S.D.tup xs :: r) 0 = some (.tup xs) := atI_at0
      simp only [gIx, this]
    rw [eg]
    intro w2 H3 s3 rv3
    have rw3 : Rp t.K H3 Nob w2 (.tup xs) := rv3
    refine ok_add H3 Nob v w2 (.tup as) (.tup xs) _ (fun _ z => z.elim) ((rp_of0 Tv2).same s3) rw3 ?_
    show Post t H3 Nob (if as.length + xs.length ≤ sizeLine then .ok (false, .tup (as ++ xs)) else .no) _
    rw [if_pos hz]
    intro w3 H4 s4 rv4
    have rw4 : Rp t.K H4 Nob w3 (.tup (as ++ xs)) := rv4
    refine ⟨by show 2 ≤ sizeLine; decide, fun p hp => ?_⟩
    have rT : RpL t.K H4 Nob [w3, cv] [.tup (as ++ xs), c] := .cons rw4 (.cons (hcr _ _) .nil)
    have rP : Rp t.K (upd H4 p (.tup [w3, cv])) Nob (.ref p) (.tup [.tup (as ++ xs), c]) := Rp.newTup hp rT
    have s5 : Sm t.K.T H2 (upd H4 p (.tup [w3, cv])) := (s3.trans s4).trans (upd_new hp)
    have re5 := re2.same s5
    obtain ⟨b, ys, F5, hv5, hw5, ha5, T5, hn5, hi5⟩ := re5.lst e2
    rw [hv] at hv5
    cases hv5
    have hlc2 : lf (.tup [.tup (as ++ xs), c]) = true := by
      simp only [lf, lfL, Bool.and_eq_true, lfL_app, hla, hlx, hlc, and_self]
    have T6 : TrL t.K (upd H4 p (.tup [w3, cv])) ([] ++ []) [.ref p] [.tup [.tup (as ++ xs), c]] := .cons (rP.tr hlc2) .nil (fun _ z => nomatch z)
    obtain ⟨ow', re'⟩ := re5.app (Sm.refl _) hv hw5 ha5 T5 hn5 hi5 T6 (fun _ z => nomatch z)
    rw [List.set_set] at re'
    have hlen : ds.dropLast.length < sizeLine := by
      have hne : ds ≠ [] := fun z => by rw [z] at hd; simp at hd
      have := List.length_pos_iff.mpr hne
      rw [List.length_dropLast]; omega
    exact ⟨a, ys, .ref p, rfl, rfl, ha5, by rw [T5.len]; exact hlen, o1 ow' σ _ re'⟩
  | _ => exact o1.elim
end
end S

/-! a tuple's [::-1] -/
namespace S
open PySem L2 PySem.Spec PyProof.Rows
open HT
theorem adjust_rev (n : Nat) : Builtin.Slice.sliceAdjust none none (-1) (n : Int) = ((n : Int) - 1, -1) := rfl
theorem places_rev (n : Nat) : Builtin.Slice.slicePlaces ((n : Int) - 1) (-1) (-1) = n := by
  unfold Builtin.Slice.slicePlaces
  rw [if_neg (by decide)]
  split
  · rw [show ((n : Int) - 1 - -1 - 1) / (- -1) = (n : Int) - 1 by rw [show (- -1 : Int) = 1 by decide, Int.ediv_one]; omega]
    omega
  · omega
theorem pick_rev (xs : Array Value) : ((List.range xs.size).filterMap fun (m : Nat) => xs[((xs.size : Int) - 1 + (m : Int) * -1).toNat]?).toArray = xs.toList.reverse.toArray := by
  have e : (fun (m : Nat) => xs[((xs.size : Int) - 1 + (m : Int) * -1).toNat]?) = (fun x => xs[x]?) ∘ fun k => xs.size - 1 - k := by
    funext m
    show xs[((xs.size : Int) - 1 + (m : Int) * -1).toNat]? = xs[xs.size - 1 - m]?
    congr 1; omega
  rw [e, ← List.filterMap_map, PySem.W.krv_range, List.filterMap_reverse, PySem.W.krv_all]
section
variable {prog : Program} {w : World} {A : Around} {E : Value → Shared → Prop} {s : Shared}
theorem sliceApplied_rev {sl : Addr} {u : Tok} {n : Nat} {Q : Int × Int × Nat → Shared → Prop} (hs : s.heap.IsSliceOf sl .none .none (.int (-1) u))
    (h : Q ((n : Int) - 1, -1, n) s) : wpAny (model prog w) A (Builtin.Slice.sliceApplied (.ref sl) (pure (n : Int))) Q E s := by
  obtain ⟨os, hos, hcs, hds⟩ := id hs
  unfold Builtin.Slice.sliceApplied Builtin.Slice.sliceFields
  refine wpAny_bind (wpAny_bind (wpAny_field hos hds (x := .none) rfl (wpAny_bind (wpAny_field hos hds (x := .none) rfl (wpAny_bind (wpAny_field hos hds (x := .int (-1) u) rfl (wpAny_pure ?_)))))))
  refine wpAny_bind (slicePart_int ?_)
  show wpAny _ _ (if ((-1 : Int) == 0) = true then _ else _) _ _ s
  rw [if_neg (by decide)]
  refine wpAny_bind (slicePart_none (wpAny_bind (slicePart_none (wpAny_bind (wpAny_pure ?_)))))
  show wpAny _ _ (match Builtin.Slice.sliceAdjust none none (-1) (n : Int) with | (lo, hi) => pure (lo, (-1 : Int), Builtin.Slice.slicePlaces lo hi (-1))) _ _ s
  rw [adjust_rev n]
  show wpAny _ _ (pure ((n : Int) - 1, (-1 : Int), Builtin.Slice.slicePlaces ((n : Int) - 1) (-1) (-1))) _ _ s
  rw [places_rev]
  exact wpAny_pure h
theorem getItem_tuple_rev {t sl : Addr} {items : Array Value} {u : Tok} {Q : Value → Shared → Prop} (ht : IsTup s.heap t items) (hs : s.heap.IsSliceOf sl .none .none (.int (-1) u))
    (h : Q (.ref s.heap.objs.size) { s with heap := s.heap.push { cls := .type "tuple", data := .seq items.toList.reverse.toArray } })
    (hsz : items.size ≤ sizeLine) : wpAny (model prog w) A (getItem (.ref t) (.ref sl)) Q E s := by
  have htake : sizeOk (.seq items.toList.reverse.toArray) := by
    show items.toList.reverse.toArray.size ≤ sizeLine
    rw [List.size_toArray, List.length_reverse, Array.length_toList]
    exact hsz
  obtain ⟨os, hos, hcs, hds⟩ := id hs
  have hTs : s.TypeIs (.ref sl) "slice" := ⟨os, hos, hcs⟩
  unfold getItem
  try with_reducible refine wpAny_holding ?_
  first | refine wpAny_bind (wpAny_pure ?_) | skip
  refine wpAny_bind (wpAny_sequenceKey ht.typeIs (by decide) ?_)
  refine wpAny_bind (wpAny_callSpecial?_slot (name := Str.ofString "__getitem__") ht.typeIs PyProof.Rows.slot_tuple_getitem
    (wpAny_call_entry PyProof.Rows.slot_tuple_getitem ht.typeIs entry_tuple_getitem ?_ (args_tuple_getitem _ _)))
  show wpAny _ _ (Builtin.Tuple.tupleItemsOf (.ref t) >>= _) _ _ s
  refine wpAny_bind (tupleItemsOf_ ht ?_)
  refine wpAny_bind (wpAny_typeOf hTs ?_)
  rw [if_pos (by decide)]
  refine wpAny_bind (sliceApplied_rev hs ?_)
  have hno : ¬ ((((items.size : Int) - 1 : Int) == 0 && (-1 : Int) == 1 && items.size == items.size) = true) := by
    rw [show ((-1 : Int) == 1) = false by decide, Bool.and_false, Bool.false_and]
    exact Bool.false_ne_true
  show wpAny _ _ (if (((items.size : Int) - 1 : Int) == 0 && (-1 : Int) == 1 && items.size == items.size) = true then _ else _) _ _ s
  rw [if_neg hno, pick_rev]
  first
    | exact wpAny_bind (m := Builtin.Tuple.tupleExact _) (wpAny_newObj_type (wpAny_pure ⟨_, rfl, wpAny_pure h⟩) htake)
    | exact wpAny_bind (m := Builtin.Tuple.tupleExact _) (wpAny_newObj_type (wpAny_bind (wpAny_pure (wpAny_pure ⟨_, rfl, wpAny_pure h⟩))) htake)
    | exact wpAny_bind (wpAny_bind (m := Builtin.Tuple.tupleExact _) (wpAny_newObj_type (wpAny_pure (wpAny_pure ⟨_, rfl, wpAny_pure h⟩)) htake))
    | exact wpAny_bind (wpAny_bind (m := Builtin.Tuple.tupleExact _) (wpAny_newObj_type (wpAny_pure ⟨_, rfl, wpAny_pure h⟩) htake))
end
def tRevT (K : PySem.W.Frag) (te : TE) : TE := fun σ H Q => te σ H fun x H1 => ∃ a xs, x = .ref a ∧ SqT K H1 a xs ∧ ∀ p, H1 p = none → Q (.ref p) (upd H1 p (.tup xs.reverse))
theorem pe_revT {X : Cx} {e : Expr} {te : TE} {k : Nat} {p1 p2 p3 pos : Pos} (he : PE X e te) : PE X (.Subscript e (.Slice none none (some (.UnaryOp .USub (.Constant (.int 1) k p1) p2)) p3) pos) (tRevT X.K te) := by
  refine ⟨fun pins s σ H Q I h => ?_⟩
  refine Subscript_ (thn (he.run pins s σ H _ I h) fun v s1 ⟨x, H1, I1, r1, q1⟩ => ?_)
  obtain ⟨a, xs, ex, hx, q⟩ := q1
  subst ex
  cases r1
  have hst : PO X (some (.UnaryOp .USub (.Constant (.int 1) k p1) p2)) (tPart (tUn (rU fun i => .int (-i)) (tC (.int 1)))) := po_some (pe_un un_neg pe_int)
  refine wpAny_Slice (thn (po_none.run pins s1 σ H1 (fun o H2 => o = none ∧ H2 = H1) I1 ⟨rfl, rfl⟩) fun vl s2 ⟨l, H2, I2, pl, el, e2⟩ => ?_)
  subst el e2
  refine thn (po_none.run pins s2 σ H2 (fun o H3 => o = none ∧ H3 = H2) I2 ⟨rfl, rfl⟩) fun vu s3 ⟨u, H3, I3, pu, eu, e3⟩ => ?_
  subst eu e3
  refine thn (hst.run pins s3 σ H3 (fun o H4 => o = some (-1) ∧ H4 = H3) I3 ⟨1, rfl, -1, rfl, rfl, rfl⟩) fun vs s4 ⟨o, H4, I4, ps, eo, e4⟩ => ?_
  subst eo e4
  cases pl
  cases pu
  obtain ⟨tk, rfl⟩ : ∃ tk, vs = .int (-1) tk := by cases ps; exact ⟨_, rfl⟩
  have I5 : L2.Inv X pins σ H4 { s4 with heap := s4.heap.push { cls := .type "slice", data := .fields #[.none, .none, .int (-1) tk] } } := I4.kept (t' := s4.toks) fun b ob q => Heap.get?_push_of_some _ q
  obtain ⟨its, r, ht, hz⟩ := I5.tuple hx
  have hlen := r.length
  show wpAny (model X.prog X.w) X.A (subscriptTail e (.Slice none none (some (.UnaryOp .USub (.Constant (.int 1) k p1) p2)) p3) (.ref a) (.ref s4.heap.objs.size)) (EP X pins σ Q) X.xe { s4 with heap := s4.heap.push { cls := .type "slice", data := .fields #[.none, .none, .int (-1) tk] } }
  refine tail_any (ops := [.ref a, .ref s4.heap.objs.size]) ht.typeIs (PyProof.Rows.slot_tuple_getitem.lookup) ?_ (by with_unfolding_all rfl)
  refine getItem_tuple_rev ht (Heap.IsSliceOf.new _ .none .none (.int (-1) tk)) ?_ (by rw [List.size_toArray]; omega)
  refine ⟨.ref _, _, I5.laid (t' := s4.toks) (o := .tup xs.reverse) (fun b ob q => Heap.get?_push_of_some _ q) (Nat.le_refl _) ?_, rfl, q _ (I5.hok.fresh (Nat.le_refl _))⟩
  exact ⟨by rw [List.length_reverse]; exact hz, _, r.reverse, ⟨_, Heap.get?_push_size _ rfl, rfl, _, rfl⟩⟩
def gRevT (x : D) : RD := match x with
  | .tup xs => .ok (false, .tup xs.reverse)
  | _ => .no
def eRevT (m : Env → RD) : Env → RD := fun env => (m env).bind fun x => gRevT x.2
theorem se_revT1 {X : Cx} {t : Ctx} {e : Expr} {R : List Nat} {m : Env → RD} {k : Nat} {p1 p2 p3 pos : Pos} (hK : t.K.K = X.K) (he : PE X e (eP t R m)) :
    PE X (.Subscript e (.Slice none none (some (.UnaryOp .USub (.Constant (.int 1) k p1) p2)) p3) pos) (eP t R (eRevT m)) := by
  refine (pe_revT he).imp fun σ H Q ⟨B, O, ow, env, re, po⟩ => ⟨B, O, ow, env, re, Post.bind1 po fun fr d v H1 _ s1 rv po1 => ?_⟩
  have r := rv.rp re.odx (O' := OwX O R ow) fun _ z => z
  cases r with
  | @tup a xs ds h1 h2 => exact ⟨a, xs, rfl, by rw [← hK]; exact h1, fun p hp => po1 _ _ (upd_new hp) (Rp.newTup hp (rpl_rev h2))⟩
  | _ => exact po1.elim
end S

/-! for x in s: y = e -- the walked list stays its owner's -/
namespace S
open PySem L2
def mSetL (j : Nat) (m : Env → RD) : Env → Out := fun env => mOf (m env) fun _ d => if lf d = true then .nx (env.set j (some (false, d))) else .no
def mForS (it : Env → Rs (List D)) (mt : D → Env → Option Env) (j : Nat) (m : Env → RD) : Env → Out := fun env => match it env with
  | .ok ds => if lfL ds = true then mLoop mt (mSetL j m) ds env else .no
  | .ex n a => .ex n a
  | .no => .no
theorem lfL_get {ds : List D} (h : lfL ds = true) : ∀ d ∈ ds, lf d = true := by
  induction ds with
  | nil => intro d m; cases m
  | cons x xs ih =>
    simp only [lfL, Bool.and_eq_true] at h
    intro d m
    rw [List.mem_cons] at m
    rcases m with rfl | m
    · exact h.1
    · exact ih h.2 d m
theorem ss_forS {X : Cx} {t : Ctx} {tg iter e : Expr} {x : Str} {px pos pos2 : Pos} {R R' : List Nat} {it : Env → Rs (List D)} {mt : D → Env → Option Env} {mm : Env → RD} {j : Nat} (hp : PassesOwn (model X.prog X.w) X.A X.env X.xe) (hc : X.calm = true) {Zs : List Nat} (hi : PI X tg iter (iP t R it)) (hg : PG X tg (gP t Zs mt))
    (hN : X.N.Nodup) (hj : X.N[j]? = some x) (hx : Loc X.env.scope x) (he : PE X e (eP t R' mm)) (hs2 : swapsWith e (some (.Name x px)) pos2.line X.env = pure false := by rfl) (hf : X.fn x = true ∨ X.env.scope.names.lookup x = some .local := by first | exact .inl rfl | exact .inr rfl | assumption)
    (hs : ∀ x, foldedSetIterable iter X.env x = pure x := by intro _; rfl) : PS X (.For tg iter [.Assign [.Name x px] e pos2] [] pos) (sP t (mForS it mt j mm)) := by
  refine (ps_for hp hc hi hg (pss_one (ps_set (pos := pos2) hN hj hx he hs2 hf)) hs).imp fun D σ H ⟨B, O, ow, env, re, o⟩ => ⟨B, O, ow, env, re, ?_⟩
  unfold mForS at o
  cases qi : it env with
  | ok ds =>
    simp only [qi] at o
    by_cases hl : lfL ds = true
    case neg => simp only [if_neg hl] at o; exact o.elim
    simp only [if_pos hl] at o
    intro J H1 s wk
    refine ⟨fun i m σ H => m + i = ds.length ∧ Sm t.K.T H1 H ∧ ∃ ow2 env2, RE t.K B O ow2 σ H env2 ∧ OutOk t B O D (mLoop mt (mSetL j mm) (ds.drop i) env2), ⟨ds.length, by simp, Sm.refl _, _, _, re.same s, by simpa using o⟩, ?_⟩
    rintro i m σ2 H2 ⟨hm, sm, ow2, env2, re2, o2⟩
    have kp : Keep (OwX O R ow) H1 H2 := ⟨fun a u _ nt h => sm.keep _ _ nt h, fun a u _ nt h => sm.keep _ _ nt h⟩
    by_cases hi : i < ds.length
    · have hd : ds.drop i = ds[i] :: ds.drop (i + 1) := List.drop_eq_getElem_cons hi
      rw [hd] at o2
      unfold mLoop at o2
      refine .inr ⟨wk.go H2 kp i hi, fun σ' H' => Sm t.K.T H1 H' ∧ ∃ ow3 env3, RE t.K B O ow3 σ' H' env3 ∧ OutOk t B O D (mLoop mt (mSetL j mm) (ds.drop (i + 1)) env3), fun σ' H' hN => ⟨m - 1, by omega, by omega, hN⟩, fun x H3 hy => ?_⟩
      obtain ⟨s3, r3⟩ := wk.yld H2 (fun _ => False) kp (fun a z => z.elim) (fun a z => z.elim) i ds[i] x H3 (List.getElem?_eq_getElem hi) hy
      have hld := lfL_get hl ds[i] (List.getElem_mem hi)
      have s3' : Sm t.K.T H2 H3 := sm_of s3
      refine ⟨_, O, ow2, env2, ds[i], re2.same s3', r3.free hld, ?_⟩
      cases qt : mt ds[i] env2 with
      | none => rw [qt] at o2; exact o2
      | some e1 =>
        rw [qt] at o2
        refine fun ow' σ' _ _ re' => ⟨_, O, ow', e1, re', ?_⟩
        simp only [mSetL] at o2
        cases qb : mm e1 with
        | ok z =>
          obtain ⟨fr, d⟩ := z
          rw [qb] at o2
          intro v H4 s4 rv
          simp only [mOf] at o2
          by_cases hd2 : lf d = true
          case neg => simp only [if_neg hd2] at o2; exact o2.elim
          simp only [if_pos hd2] at o2
          have r4 : Rp t.K H4 Nob v d := (rv.rp re'.odx (O' := OwX O R' ow') fun _ z => z).free hd2
          have re4 := (re'.same s4).putF (i := j) (Sm.refl _) (r4.free hd2)
          exact ⟨(sm.trans s3').trans s4, _, _, re4, o2⟩
        | ex n a =>
          rw [qb] at o2
          exact fun C dx H4 s4 z => o2 C dx H4 (re'.ext.trans s4) z
        | no => rw [qb] at o2; exact o2
    · have hl : ds.length ≤ i := Nat.le_of_not_lt hi
      have ei : i = ds.length := by omega
      subst ei
      rw [List.drop_length] at o2
      exact .inl ⟨wk.stop H2 kp, o2 ow2 σ2 H2 re2⟩
  | ex n a => simp only [qi] at o; exact fun C dx H1 s z => o C dx H1 (re.ext.trans s) z
  | no => simp only [qi] at o; exact o
end S

/-! dict(d), d.get(k, x), {k: v}, tuples of new trees, new trees stored, d.items() walked -/
namespace S
open PySem PySem.Spec PyProof.Rows L2
def fDct (ds : List D) : RD := match ds with
  | [.dct kvs] => if lfK kvs = true then .ok (true, .dct kvs) else .no
  | _ => .no
def eDget2 (m k x : Env → RD) : Env → RD := fun env => (m env).bind fun a => match a.2 with
  | .dct kvs => (k env).bind fun b => (x env).bind fun c => match keyOf b.2 with
    | some q => .ok (false, (lookD kvs q).getD c.2)
    | none => .no
  | _ => .no
def eDct1 (k m : Env → RD) : Env → RD := fun env => (k env).bind fun b => (m env).bind fun c => match keyOf b.2 with
  | some q => if lf c.2 = true then .ok (true, .dct [(q, c.2)]) else .no
  | none => .no
def eTupF (f : Env → Rs (List D)) (p : Env → RD) : Env → RD := fun env => match f env with
  | .ok ds => if ds.length ≤ sizeLine then .ok (true, .tup ds) else .no
  | .ex n a => .ex n a
  | .no => p env
def mStoreT (i : Nat) (mi mv : Env → RD) : Env → Out := fun env => match env[i]? with
  | some (some (true, .lst ds)) => mOf (mv env) fun fr d => mOf (mi env) fun _ k => match k with
    | .int k => if fr = true then (match ixN ds.length k with
      | some p => .nx (env.set i (some (true, .lst (ds.set p d))))
      | none => .no) else .no
    | _ => .no
  | _ => .no
def wipeF (env : Env) : Env := env.map fun o => match o with
  | some (false, d) => if lf d = true then some (false, d) else none
  | o => o
def itmD (kvs : List (Key × D)) : List D := kvs.map fun p => .tup [kD p.1, p.2]
def mForI (i : Nat) (tg : D → Env → Option Env) (body : Env → Out) : Env → Out := fun env => match env[i]? with
  | some (some (_, .dct kvs)) => if lfK kvs = true then (match mLoop tg body (itmD kvs) (wipeF (frz [i] env)) with
    | .nx e => .nx e
    | _ => .no) else .no
  | _ => .no
section
variable {t : Ctx}
theorem ok_dct : GOkN t (fun xs H Q => ∃ (a : Addr) (kvs : List (Key × V)), xs = [.ref a] ∧ Rd H a (.dK kvs) ∧ ∀ p, H p = none → Q (.ref p) (upd H p (.dK kvs))) fDct := by
  intro H O xs ds Q hO rs po
  unfold fDct at po
  split at po
  · rename_i kvs
    obtain ⟨x, rfl, r1⟩ := rpl1 rs
    cases r1 with
    | @dct a vs _ h1 h2 h3 =>
      by_cases hl : lfK kvs = true
      · rw [if_pos hl] at po
        exact ⟨a, vs, rfl, .inl h1, fun q hq => po _ _ (upd_new hq) ⟨[q], .dct upd_same ((h3.trL hl).same (upd_new (T := []) hq)) (fun z => nomatch z), fun b m => by rw [List.mem_singleton.mp m]; exact fr_none hq⟩⟩
      · rw [if_neg hl] at po; exact po.elim
  · exact po.elim
end
section
variable {X : Cx} {t : Ctx} {a b c : Expr} {es : List Expr} {Ra Rb Rc R R' : List Nat} {ma mb mc m m' : Env → RD} {pos apos cpos : Pos} {i : Nat}
theorem se_dget2 (hu : X.A.units + 64 < cLine) (ha : PE X a (eP t Ra ma)) (hb : PE X b (eP t Rb mb)) (hc : PE X c (eP t Rc mc)) (mm : M2 X a "get" apos b c cpos) : PE X (.Call (.Attribute a "get" apos) [b, c] [] cpos) (eP t (Ra ++ (Rb ++ Rc)) (eDget2 ma mb mc)) :=
  (pe_dget2 (by omega) ha hb hc mm).imp fun σ H Q ⟨B, O, ow, env, re, po⟩ => ⟨B, O, ow, env, re, Post.bind1 po fun fr d v H1 _ s1 rv po1 => by
    have re1 := re.same s1
    have r1 : Rp t.K H1 (OwX O (Ra ++ (Rb ++ Rc)) ow) v d := rv.rp re.odx (fun _ z => owx_l z)
    cases r1 with
    | @dct p0 kvs ds h1 h0 h2 =>
      simp only at po1
      refine ⟨p0, rfl, .inl ⟨_, .inl h1⟩, B, O, ow, env, re1, Post.bind1 po1 fun fr2 d2 v2 H2 _ s2 rv2 po2 => ?_⟩
      have re2 := re1.same s2
      refine ⟨B, O, ow, env, re2, Post.bind1 po2 fun fr3 d3 v3 H3 _ s3 rv3 po3 => ?_⟩
      have r2 : Rp t.K H2 (OwX O Rb ow) v2 d2 := rv2.rp re1.odx (fun _ z => z)
      have r3 : Rp t.K H3 (OwX O (Ra ++ (Rb ++ Rc)) ow) v3 d3 := rv3.rp re2.odx (fun _ z => owx_r (owx_r z))
      have hr : Rp t.K H1 (OwX O (Ra ++ (Rb ++ Rc)) ow) (.ref p0) (.dct ds) := .dct h1 h0 h2
      have hr3 := (hr.same s2).same s3
      cases hr3 with
      | @dct _ kvs3 _ h1' h0' h2' =>
        cases qk : keyOf d2 with
        | none => simp only [qk] at po3; exact po3.elim
        | some k =>
          simp only [qk] at po3
          cases key_v r2 qk
          have lk := look_rp (k := k) h2'
          refine ⟨_, DGet.k h1', ?_⟩
          cases ql : lookD ds k with
          | none =>
            simp only [ql] at lk po3
            rw [lk]
            exact po3.here r3
          | some d' =>
            simp only [ql] at lk po3
            obtain ⟨w, e1, e2⟩ := lk
            rw [e1]
            exact po3.here e2
    | _ => exact po1.elim⟩
theorem se_dct1 (ha : PE X a (eP t Ra ma)) (hb : PE X b (eP t Rb mb)) : PE X (.Dict [some a] [b] pos) (eP t (Ra ++ Rb) (eDct1 ma mb)) := by
  refine (pe_disp (pps_cons ha hb pps_nil) rfl rfl (fun z => nomatch z) (show 1 ≤ 15 by decide)).imp fun σ H Q ⟨B, O, ow, env, re, po⟩ => fun p hp => ?_
  have s0 : Sm t.K.T H (upd H p (.dK [])) := upd_new hp
  have re0 := re.same s0
  unfold eDct1 at po
  refine ⟨B, O, ow, env, re0, ?_⟩
  cases qa : ma env with
  | no => rw [qa] at po; exact po.elim
  | ex n a => rw [qa] at po; exact fun C dx H' s' hx => po C dx H' (s0.trans s') hx
  | ok x =>
    obtain ⟨fr, d⟩ := x
    rw [qa] at po
    intro v H1 s1 rv
    have re1 := re0.same s1
    refine ⟨B, O, ow, env, re1, ?_⟩
    simp only [Rs.bind_ok] at po
    cases qb : mb env with
    | no => rw [qb] at po; exact po.elim
    | ex n a => rw [qb] at po; exact fun C dx H' s' hx => po C dx H' ((s0.trans s1).trans s') hx
    | ok x2 =>
      obtain ⟨fr2, d2⟩ := x2
      rw [qb] at po
      intro v2 H2 s2 rv2
      simp only [Rs.bind_ok] at po
      have r1 : Rp t.K H1 (OwX O Ra ow) v d := rv.rp re0.odx (fun _ z => z)
      have r2 : Rp t.K H2 (OwX O Rb ow) v2 d2 := rv2.rp re1.odx (fun _ z => z)
      have hp2 : H2 p = some (.dK []) := (s1.trans s2).keep _ _ nt_dK upd_same
      cases qk : keyOf d with
      | none => simp only [qk] at po; exact po.elim
      | some k =>
        simp only [qk] at po
        cases key_v r1 qk
        by_cases hl : lf d2 = true
        · rw [if_pos hl] at po
          refine ⟨hp2, [(k, v2)], rfl, by simp, ?_⟩
          have e : mergeK [] [(k, v2)] = [(k, v2)] := rfl
          rw [e]
          refine po _ _ ⟨fun b o nt h => ?_, fun tb => tabs_upd hp2 trivial (s2.tabs (s1.tabs (s0.tabs tb)))⟩ ⟨[p], .dct upd_same ?_ (fun z => nomatch z), fun b m => by rw [List.mem_singleton.mp m]; exact fr_none hp⟩
          · rw [upd_ne (fun z => by rw [z, hp] at h; cases h)]
            exact s2.keep _ _ nt (s1.keep _ _ nt (s0.keep _ _ nt h))
          · have T0 : Tr t.K H2 [] v2 d2 := r2.tr hl
            exact TrK.cons (F := []) (G := []) (T0.carry (fun b m => nomatch m) (firm_upd (Sm.refl (T := t.K.T) H2) hp2 trivial)) .nil (fun _ z => nomatch z)
        · rw [if_neg hl] at po; exact po.elim
theorem se_tupF {x1} {mr : Env → Rs (List D)} {f : Env → Rs (List D)} (hF : PA X es (fP t [] f)) (h : PA X es (aP t R mr)) : PE X (.Tuple es x1 pos) (eP t R (eTupF f (eTup mr))) := by
  refine ⟨fun pins s σ H Q I ⟨B, O, ow, env, re, po⟩ => ?_⟩
  unfold eTupF at po
  cases q : f env with
  | no =>
    rw [q] at po
    exact (se_tup (x1 := x1) (pos := pos) h).run pins s σ H Q I ⟨B, O, ow, env, re, po⟩
  | ex n a =>
    rw [q] at po
    exact (pe_tup (x1 := x1) (pos := pos) hF).run pins s σ H Q I ⟨B, O, ow, env, re, by rw [q]; exact fun C dx H' s' hx => po C dx H' s' hx⟩
  | ok ds =>
    rw [q] at po
    simp only at po
    by_cases hl : ds.length ≤ sizeLine
    · rw [if_pos hl] at po
      refine (pe_tup (x1 := x1) (pos := pos) hF).run pins s σ H Q I ⟨B, O, ow, env, re, ?_⟩
      rw [q]
      intro vs H' F s' T hG
      refine ⟨by rw [T.len]; exact hl, fun l hp => po (.ref l) _ (s'.trans (upd_new hp)) ⟨F, .tup (.of upd_same) (T.same (upd_new (T := t.K.T) hp)), fun a m => ?_⟩⟩
      rcases hG a m with y | ⟨j, y, _⟩
      · exact y
      · exact nomatch y
    · rw [if_neg hl] at po; exact po.elim
theorem TrL.set {K : PySem.W.Frag} {H : Hp} {d : D} {v : V} {G : List Addr} (h : Tr K H G v d) : ∀ {ds : List D} {F : List Addr} {vs : List V} (n : Nat), TrL K H F vs ds → (∀ a ∈ G, a ∉ F) → ∃ F', TrL K H F' (vs.set n v) (ds.set n d) ∧ ∀ a ∈ F', a ∈ F ∨ a ∈ G
  | [], _, _, _, .nil, _ => ⟨[], .nil, fun _ m => nomatch m⟩
  | _ :: _, _, _, 0, .cons (F := F0) (G := F1) h0 hs hd, hg => ⟨G ++ F1, .cons h hs (fun a m z => hg a m (List.mem_append_right _ z)), fun a m => (List.mem_append.mp m).elim .inr fun z => .inl (List.mem_append_right _ z)⟩
  | _ :: _, _, _, n + 1, .cons (F := F0) (G := F1) h0 hs hd, hg => by
    obtain ⟨F', h1, h2⟩ := TrL.set h n hs (fun a m z => hg a m (List.mem_append_right _ z))
    refine ⟨F0 ++ F', .cons h0 h1 (fun a m z => ?_), fun a m => ?_⟩
    · rcases h2 a z with y | y
      · exact hd a m y
      · exact hg a y (List.mem_append_left _ m)
    · rcases List.mem_append.mp m with y | y
      · exact .inl (List.mem_append_left _ y)
      · exact (h2 a y).imp (fun z => List.mem_append_right _ z) id
theorem ss_storeT {e k : Expr} {x : Str} {p p2 : Pos} (hx : PE X (.Name x p) (tVar i)) (hk : PE X k (eP t R' m')) (he : PE X e (eP t R m))
    (ha : ∀ v, assign (.Subscript (.Name x p) k p2) X.env v = (do
      let ov ← holding [v] (eval (.Name x p) X.env)
      let iv ← holding [v, ov] (eval k X.env)
      standAt p2
      holding [v, ov, iv] (setItem ov iv v)
      release [v, ov, iv] []) := by intro _; rfl)
    (hs : swapsWithSole [.Subscript (.Name x p) k p2] e pos.line X.env = pure false := by rfl) (hw : swappedStores [.Subscript (.Name x p) k p2] e X.env = pure none := by rfl)
    (h1 : (assignEach [.Subscript (.Name x p) k p2] X.env).map (·.2) = [assign (.Subscript (.Name x p) k p2) X.env] := by rfl) : PS X (.Assign [.Subscript (.Name x p) k p2] e pos) (sP t (mStoreT i m' m)) := by
  refine (ps_asg he (pg_sub hx hk set_list ha) hs hw h1).imp fun D σ H ⟨B, O, ow, env, re, o⟩ => ?_
  unfold mStoreT at o
  split at o
  case h_2 => exact o.elim
  rename_i ds e0
  refine ⟨B, O, ow, env, re, mOf_read re.ext o fun fr d v H1 s rv o1 => ?_⟩
  have re1 := re.same s
  obtain ⟨a, xs, F, hv, hw', ha', T, hn, hi⟩ := re1.lst e0
  have haH : ∀ b ∈ ow i, ∃ u, H b = some u ∧ LD u := fun b m => (re.own i b m).2
  refine ⟨.ref a, hv, B, O, ow, env, re1, mOf_read re1.ext o1 fun fr2 d2 v2 H2 s2 rv2 o2 => ?_⟩
  have r2 := rv2.rp re1.odx (O' := OwX O R' ow) fun _ z => z
  cases r2 with
  | int k =>
    simp only at o2
    cases fr with
    | false => simp at o2; exact o2.elim
    | true =>
      rw [if_pos rfl] at o2
      cases hp : ixN ds.length k with
      | none => simp only [hp] at o2; exact o2.elim
      | some p =>
        simp only [hp] at o2
        obtain ⟨G, g1, g2⟩ := rv
        have re2 := re1.same s2
        have ha2 := s2.keep _ _ nt_lst ha'
        have nG : ∀ b ∈ ow i, b ∉ G := fun b m z => by
          obtain ⟨u, e1, e2⟩ := haH b m
          exact g2 b z u (mut_nt e2) e1
        obtain ⟨F', f1, f2⟩ := TrL.set (g1.same s2) p (T.same s2) (fun b m z => nG b (by rw [hw']; exact List.mem_cons_of_mem _ z) m)
        have na : a ∉ F' := fun z => by
          rcases f2 a z with y | y
          · exact hn y
          · exact nG a (by rw [hw']; exact List.mem_cons_self) y
        have T2 : TrL t.K (upd H2 a (.lst (xs.set p v))) F' (xs.set p v) (ds.set p d) := f1.carry (fun b m u nt e => by rw [upd_ne (fun z => na (by rw [← z]; exact m))]; exact e) (firm_upd (Sm.refl (T := t.K.T) H2) ha2 trivial)
        have tr : Tr t.K (upd H2 a (.lst (xs.set p v))) (a :: F') (.ref a) (.lst (ds.set p d)) := .lst upd_same T2 na
        have re3 := re.mutate (i := i) (d := .lst ds) (H' := upd H2 a (.lst (xs.set p v))) hv hi (fun b u n nt e => by rw [upd_ne (fun z => n (by rw [hw', z]; exact List.mem_cons_self))]; exact s2.keep _ _ nt (s.keep _ _ nt e)) (tabs_upd ha2 trivial re2.tabs) tr (fun b m => by
          rcases List.mem_cons.mp m with rfl | m
          · exact .inl (by rw [hw']; exact List.mem_cons_self)
          · rcases f2 b m with y | y
            · exact .inl (by rw [hw']; exact List.mem_cons_of_mem _ y)
            · exact .inr (g2 b y))
        exact ⟨a, xs, k, p, rfl, rfl, ha2, by rw [T.len]; exact hp, o2 _ σ _ re3⟩
  | _ => exact o2.elim
end
/-! ### a dict walked by items -/
section
variable {K : PySem.W.Frag} {H : Hp} {O : Addr → Prop} {a : Addr} {od : Obj} {kvs0 : List (Key × V)}
theorem keep_unl (h : H a = some (.frz od (.dK kvs0))) {b : Addr} {o : HO} (e : H b = some o) (n : o ≠ .frz od (.dK kvs0)) : upd H a (.dK kvs0) b = some o := by
  by_cases q : b = a
  · subst q; rw [h] at e; cases e; exact (n rfl).elim
  · rw [upd_ne q]; exact e
theorem sqt_unl (h : H a = some (.frz od (.dK kvs0))) {b : Addr} {xs : List V} (e : SqT K H b xs) : SqT K (upd H a (.dK kvs0)) b xs := by
  rcases e with (e | ⟨o, e⟩) | e
  · exact .inl (.inl (keep_unl h e nofun))
  · exact .inl (.inr ⟨o, keep_unl h e nofun⟩)
  · exact .inr e
theorem frzl_unl (h : H a = some (.frz od (.dK kvs0))) {b : Addr} {ns : List Int} (e : FrzL K H b ns) : FrzL K (upd H a (.dK kvs0)) b ns := by
  rcases e with ⟨o, e⟩ | e
  · exact .inl ⟨o, keep_unl h e nofun⟩
  · exact .inr e
mutual
theorem Rp.unl (h : H a = some (.frz od (.dK kvs0))) : ∀ {d : D} {v : V}, Rp K H O v d → Rp K (upd H a (.dK kvs0)) O v d
  | .non, _, .non => .non
  | .bl _, _, .bl _ => .bl _
  | .int _, _, .int _ => .int _
  | .str _, _, .str _ => .str _
  | .raw _ _ _, _, .raw e => .raw fun dd q => keep_unl h (e dd q) nofun
  | .scr _, _, .scr e => .scr (frzl_unl h e)
  | .lst ds, _, .lst e h2 hs => .lst (keep_unl h e nofun) h2 (RpL.unl h hs)
  | .tup ds, _, .tup e hs => .tup (sqt_unl h e) (RpL.unl h hs)
  | .dct ds, _, .dct e h2 hs => .dct (keep_unl h e nofun) h2 (RpK.unl h hs)
theorem RpL.unl (h : H a = some (.frz od (.dK kvs0))) : ∀ {ds : List D} {vs : List V}, RpL K H O vs ds → RpL K (upd H a (.dK kvs0)) O vs ds
  | [], _, .nil => .nil
  | _ :: _, _, .cons r rs => .cons (Rp.unl h r) (RpL.unl h rs)
theorem RpK.unl (h : H a = some (.frz od (.dK kvs0))) : ∀ {ds : List (Key × D)} {vs : List (Key × V)}, RpK K H O vs ds → RpK K (upd H a (.dK kvs0)) O vs ds
  | [], _, .nil => .nil
  | _ :: _, _, .cons r rs => .cons (Rp.unl h r) (RpK.unl h rs)
end
mutual
theorem Tr.unl (h : H a = some (.frz od (.dK kvs0))) : ∀ {d : D} {F : List Addr} {v : V}, Tr K H F v d → Tr K (upd H a (.dK kvs0)) F v d
  | .non, _, _, .non => .non
  | .bl _, _, _, .bl _ => .bl _
  | .int _, _, _, .int _ => .int _
  | .str _, _, _, .str _ => .str _
  | .raw _ _ _, _, _, .raw e => .raw fun dd q => keep_unl h (e dd q) nofun
  | .scr _, _, _, .scr e => .scr (frzl_unl h e)
  | .lst ds, _, _, .lst e hs hn => .lst (keep_unl h e nofun) (TrL.unl h hs) hn
  | .tup ds, _, _, .tup e hs => .tup (sqt_unl h e) (TrL.unl h hs)
  | .dct ds, _, _, .dct e hs hn => .dct (keep_unl h e nofun) (TrK.unl h hs) hn
theorem TrL.unl (h : H a = some (.frz od (.dK kvs0))) : ∀ {ds : List D} {F : List Addr} {vs : List V}, TrL K H F vs ds → TrL K (upd H a (.dK kvs0)) F vs ds
  | [], _, _, .nil => .nil
  | _ :: _, _, _, .cons r rs hd => .cons (Tr.unl h r) (TrL.unl h rs) hd
theorem TrK.unl (h : H a = some (.frz od (.dK kvs0))) : ∀ {ds : List (Key × D)} {F : List Addr} {vs : List (Key × V)}, TrK K H F vs ds → TrK K (upd H a (.dK kvs0)) F vs ds
  | [], _, _, .nil => .nil
  | _ :: _, _, _, .cons r rs hd => .cons (Tr.unl h r) (TrK.unl h rs) hd
end
end
section
variable {K : KT} {B H : Hp} {O : Addr → Prop} {ow : Nat → List Addr} {σ : L2.St} {env : Env} {a : Addr} {od : Obj} {kvs0 : List (Key × V)}
theorem wipeF_get {j : Nat} {f : Bool} {d : D} (h : (wipeF env)[j]? = some (some (f, d))) : env[j]? = some (some (f, d)) ∧ (f = false → lf d = true) := by
  unfold wipeF at h
  rw [List.getElem?_map] at h
  cases q : env[j]? with
  | none => rw [q] at h; cases h
  | some o =>
    rw [q] at h
    simp only [Option.map_some, Option.some.injEq] at h
    cases o with
    | none => simp at h
    | some p =>
      obtain ⟨g, e⟩ := p
      cases g with
      | true => simp at h; obtain ⟨rfl, rfl⟩ := h; exact ⟨rfl, nofun⟩
      | false =>
        by_cases hl : lf e = true
        · simp [hl] at h; obtain ⟨rfl, rfl⟩ := h; exact ⟨rfl, fun _ => hl⟩
        · simp [hl] at h
theorem RE.wipeF (re : RE K B O ow σ H env) : RE K B O ow σ H (S.wipeF env) :=
  ⟨by rw [re.len]; unfold S.wipeF; rw [List.length_map], re.ext, re.tabs, re.dom, fun i d h => re.fz i d (wipeF_get h).1, fun i d h => re.tr i d (wipeF_get h).1, re.own, re.inj⟩
theorem RE.lockD (re : RE K B O ow σ H env) (hl : ∀ (j : Nat) (d : D), env[j]? = some (some (false, d)) → lf d = true) (h : H a = some (.dK kvs0)) (hO : ¬ Ow O ow a) (od : Obj) : RE K (upd B a (.frz od (.dK kvs0))) O ow σ (upd H a (.frz od (.dK kvs0))) env := by
  have fm : Firm H (upd H a (.frz od (.dK kvs0))) := firm_upd (Sm.refl (T := K.T) H) h trivial
  refine ⟨re.len, ⟨fun b o nt e => ?_, fun _ => tabs_upd h trivial re.tabs⟩, tabs_upd h trivial re.tabs, fun b z => ?_, fun j d e => ?_, fun j d e => ?_, fun j b m => ?_, re.inj⟩
  · by_cases q : b = a
    · subst q; rw [upd_same] at e ⊢; exact e
    · rw [upd_ne q] at e ⊢; exact re.ext.keep _ _ nt e
  · obtain ⟨u, n, e⟩ := re.dom b z
    exact ⟨u, n, by rw [upd_ne (fun q => hO (.inl (by rw [← q]; exact z)))]; exact e⟩
  · obtain ⟨v, h1, h2⟩ := re.fz j d e
    exact ⟨v, h1, ((h2.tr (hl j d e)).carry (fun b m => (List.not_mem_nil m).elim) fm).rp fun b m => (List.not_mem_nil m).elim⟩
  · obtain ⟨v, h1, h2⟩ := re.tr j d e
    exact ⟨v, h1, h2.carry (fun b m u nt q => by rw [upd_ne (fun z => hO (.inr ⟨j, by rw [← z]; exact m⟩))]; exact q) fm⟩
  · obtain ⟨h1, u, h2, h3⟩ := re.own j b m
    have q : b ≠ a := fun z => hO (.inr ⟨j, by rw [← z]; exact m⟩)
    exact ⟨fun u n e => h1 u n (by rw [upd_ne q] at e; exact e), u, by rw [upd_ne q]; exact h2, h3⟩
theorem RE.unl {B0 : Hp} (re : RE K B O ow σ H env) (hB : Sm K.T (upd B0 a (.frz od (.dK kvs0))) B) (hB0 : ∀ o, NT o → B0 a = some o → o = .dK kvs0) (hd : ∀ b, O b → Sd B0 b) : H a = some (.frz od (.dK kvs0)) ∧ RE K B0 O ow σ (upd H a (.dK kvs0)) env := by
  have h : H a = some (.frz od (.dK kvs0)) := re.ext.keep _ _ nt_frz (hB.keep _ _ nt_frz upd_same)
  have tb : LamX.Tabs K.T (upd H a (.dK kvs0)) := fun q m => by
    obtain ⟨ps, h1, h2, h3⟩ := re.tabs q m
    refine ⟨ps, keep_unl h h1 nofun, h2, fun pos cv hc => ?_⟩
    obtain ⟨c, e1, e2⟩ := h3 pos cv hc
    exact ⟨c, e1, keep_unl h e2 nofun⟩
  refine ⟨h, re.len, ⟨fun b o nt e => ?_, fun _ => tb⟩, tb, hd, fun j d e => ?_, fun j d e => ?_, fun j b m => ?_, re.inj⟩
  · by_cases q : b = a
    · subst q; rw [upd_same, hB0 o nt e]
    · rw [upd_ne q]; exact re.ext.keep _ _ nt (hB.keep _ _ nt (by rw [upd_ne q]; exact e))
  · obtain ⟨v, h1, h2⟩ := re.fz j d e
    exact ⟨v, h1, h2.unl h⟩
  · obtain ⟨v, h1, h2⟩ := re.tr j d e
    exact ⟨v, h1, h2.unl h⟩
  · obtain ⟨h1, u, h2, h3⟩ := re.own j b m
    have q : b ≠ a := fun z => by subst z; rw [h] at h2; cases h2; exact h3
    exact ⟨fun u n e => h1 u n (hB.keep _ _ n (by rw [upd_ne q]; exact e)), u, by rw [upd_ne q]; exact h2, h3⟩
end
theorem itm_walk {K : PySem.W.Frag} {O : Addr → Prop} {H1 : Hp} {a : Addr} {od : Obj} {vs : List (Key × V)} {kvs : List (Key × D)} (h : H1 a = some (.frz od (.dK vs))) (r : TrK K H1 [] vs kvs) :
    WalkOk K O (Iti a od vs) H1 (itmD kvs) := by
  have rk : ∀ O', RpK K H1 O' vs kvs := fun O' => r.rp fun b m => (List.not_mem_nil m).elim
  have hl : vs.length = kvs.length := (rk O).len
  have hk : ∀ H2, Keep O H1 H2 → H2 a = some (.frz od (.dK vs)) := fun H2 k => k.2 _ _ (fun z => z) nt_frz h
  have get : ∀ {vs : List (Key × V)} {kvs : List (Key × D)} {F : List Addr} {i : Nat} {k : Key} {v : V} {d : D}, TrK K H1 F vs kvs → F = [] → vs[i]? = some (k, v) → (itmD kvs)[i]? = some d → ∃ d0, d = .tup [kD k, d0] ∧ Tr K H1 [] v d0 := by
    intro vs kvs F i
    induction i generalizing vs kvs F with
    | zero =>
      intro k v d r hF e e2
      cases r with
      | nil => simp at e
      | @cons F1 G1 k' v' vs' d' ds' r rs hd =>
        simp at e
        obtain ⟨rfl, rfl⟩ := e
        simp [itmD] at e2
        have := List.append_eq_nil_iff.mp hF
        exact ⟨d', e2.symm, by rw [← this.1]; exact r⟩
    | succ i ih =>
      intro k v d r hF e e2
      cases r with
      | nil => simp at e
      | @cons F1 G1 k' v' vs' d' ds' r rs hd =>
        have := List.append_eq_nil_iff.mp hF
        exact ih rs this.2 (by simpa using e) (by simpa [itmD] using e2)
  refine ⟨fun H2 k i hi => ⟨hk H2 k, by rw [hl]; simpa [itmD] using hi⟩, fun H2 k => ⟨hk H2 k, by rw [hl]; simp [itmD]⟩, fun H2 O' k hO _ i d x H3 e y => ?_⟩
  obtain ⟨T, key, v, e1, rfl, hT, rfl⟩ := y
  obtain ⟨d0, rfl, t0⟩ := get r rfl e1 e
  have t2 : Tr K H2 [] v d0 := t0.carry (fun b m => (List.not_mem_nil m).elim) k.2
  refine ⟨upd_newS hT, Rp.newTup hT (.cons ?_ (.cons (t2.rp fun b m => (List.not_mem_nil m).elim) .nil))⟩
  cases key with
  | inl i => exact .int i
  | inr s => exact .str s
section
variable {X : Cx} {t : Ctx} {elts : List Expr} {body : List Stmt} {mt : D → Env → Option Env} {mb : Env → Out} {pos p tpos apos cpos : Pos} {i0 : Nat} {x : Str}
theorem ss_forI (hp : PassesOwn (model X.prog X.w) X.A X.env X.xe) (hc : X.calm = true) {Zs : List Nat} {kk : Nat} (hx : PE X (.Name x p) (tVar i0)) (hg : PG X (.Tuple elts kk tpos) (gP t Zs mt)) (hb : PSs X body (sP t mb))
    (hbase : attributeBase (.Name x p) "items" X.env (eval (.Name x p) X.env) = eval (.Name x p) X.env := by rfl) (hline : (apos.endLine == cpos.line) = true := by rfl)
    (hs : ∀ x1, foldedSetIterable (.Call (.Attribute (.Name x p) "items" apos) [] [] cpos) X.env x1 = pure x1 := by intro _; rfl) :
    PS X (.For (.Tuple elts kk tpos) (.Call (.Attribute (.Name x p) "items" apos) [] [] cpos) body [] pos) (sP t (mForI i0 mt mb)) := by
  refine (ps_lock (ps_for hp hc (pi_items hx hbase hline) hg hb hs)).imp fun D σ H ⟨B, O, ow0, env0, re, o⟩ => ?_
  unfold mForI at o
  split at o
  case h_2 => exact o.elim
  rename_i b0 kvs e
  by_cases hlk : lfK kvs = true
  case neg => rw [if_neg hlk] at o; exact o.elim
  rw [if_pos hlk] at o
  have re0 := re.freeze [i0]
  have e0 : (frz [i0] env0)[i0]? = some (some (false, .dct kvs)) := by
    show (env0.modify i0 _)[i0]? = _
    rw [List.getElem?_modify, e]; simp
  obtain ⟨v, hv, r⟩ := re0.fz i0 _ e0
  generalize howl : owLess ow0 [i0] = ow at re0 r
  cases r with
  | @dct a vs _ h1 h2 h3 =>
    refine ⟨a, .dK vs, h1, trivial, fun od => ?_⟩
    have re1 := (re0.wipeF).lockD (fun j d q => (wipeF_get q).2 rfl) h1 h2 od
    generalize hen : wipeF (frz [i0] env0) = env at re1 o
    have wk : WalkOk t.K (Ow O ow) (Iti a od vs) (upd H a (.frz od (.dK vs))) (itmD kvs) := itm_walk upd_same ((h3.trL hlk).carry (fun b m => nomatch m) (firm_upd (Sm.refl (T := t.K.T) H) h1 trivial))
    refine ⟨.ref a, hv, a, od, vs, rfl, upd_same, ?_⟩
    generalize hH1 : upd H a (.frz od (.dK vs)) = H1 at re1 wk
    have hB := re1.inner
    have hb1 := under_base re1
    have hB0 : ∀ o, NT o → B a = some o → o = .dK vs := fun o n q => by
      have := re0.ext.keep _ _ n q
      rw [h1] at this; cases this; rfl
    generalize hD : (⟨fun σ' H' => H' a = some (.frz od (.dK vs)) ∧ D.nx σ' (upd H' a (.dK vs)), fun v H' => H' a = some (.frz od (.dK vs)) ∧ D.rt v (upd H' a (.dK vs)), fun σ' H' => H' a = some (.frz od (.dK vs)) ∧ D.bk σ' (upd H' a (.dK vs)), fun σ' H' => H' a = some (.frz od (.dK vs)) ∧ D.ct σ' (upd H' a (.dK vs))⟩ : Ends) = D'
    have o1 : OutOk t (under ow H1) O D' (mLoop mt mb (itmD kvs) env) := by
      cases qm : mLoop mt mb (itmD kvs) env with
      | nx e1 =>
        rw [qm] at o
        intro ow2 σ2 H2 re2
        obtain ⟨z1, z2⟩ := re2.unl hb1 hB0 re0.dom
        subst hD
        exact ⟨z1, o ow2 σ2 _ z2⟩
      | _ => rw [qm] at o; exact o.elim
    generalize hds : itmD kvs = ds at wk o1
    refine ⟨fun i m σ H => m + i = ds.length ∧ ∃ ow2 env2, RE t.K (under ow H1) O ow2 σ H env2 ∧ OutOk t (under ow H1) O D' (mLoop mt mb (ds.drop i) env2), ⟨ds.length, by simp, _, _, hB, by simpa using o1⟩, ?_⟩
    rintro i m σ2 H2 ⟨hm, ow2, env2, re2, o2⟩
    have kp := re1.keeps re2.ext
    by_cases hi : i < ds.length
    · have hd : ds.drop i = ds[i] :: ds.drop (i + 1) := List.drop_eq_getElem_cons hi
      rw [hd] at o2
      unfold mLoop at o2
      refine .inr ⟨wk.go H2 kp i hi, fun σ' H' => ∃ ow3 env3, RE t.K (under ow H1) O ow3 σ' H' env3 ∧ OutOk t (under ow H1) O D' (mLoop mt mb (ds.drop (i + 1)) env3), fun σ' H' hN => ⟨m - 1, by omega, by omega, hN⟩, fun x H3 hy => ?_⟩
      have hO : ∀ a, Ow O ow2 a → Ow O ow a ∨ Fr H1 a := fun a z => by
        rcases z with z | ⟨j, z⟩
        · exact .inl (.inl z)
        · have h0 := (re2.own j a z).1
          by_cases hq : ∃ i, a ∈ ow i
          · exact .inl (.inr hq)
          · exact .inr fun u n e => h0 u n (by rw [under_no hq]; exact e)
      obtain ⟨s3, r3⟩ := wk.yld H2 (Ow O ow2) kp hO (fun a z => re2.od a z) i ds[i] x H3 (List.getElem?_eq_getElem hi) hy
      refine ⟨_, O, ow2, env2, ds[i], re2.same (sm_of s3), r3, ?_⟩
      cases qt : mt ds[i] env2 with
      | none => rw [qt] at o2; exact o2
      | some e1 =>
        rw [qt] at o2
        refine fun ow' σ' _ _ re' => ⟨_, O, ow', e1, re', ?_⟩
        simp only at o2
        cases qb : mb e1 with
        | nx e2 => rw [qb] at o2; exact fun ow4 σ4 H4 re4 => ⟨ow4, e2, re4, o2⟩
        | ct e2 => rw [qb] at o2; exact fun ow4 σ4 H4 re4 => ⟨ow4, e2, re4, o2⟩
        | bk e2 => rw [qb] at o2; exact fun ow4 σ4 H4 re4 => o2 ow4 σ4 H4 re4
        | rt fr d => rw [qb] at o2; exact o2
        | ex n a => rw [qb] at o2; exact o2
        | no => rw [qb] at o2; exact o2
    · have hl : ds.length ≤ i := Nat.le_of_not_lt hi
      have ei : i = ds.length := by omega
      subst ei
      rw [List.drop_length] at o2
      exact .inl ⟨wk.stop H2 kp, o2 ow2 σ2 H2 re2⟩
end
end S

/-! a, b, .. = s.pop() -/
namespace S
open PySem L2 PySem.Spec PyProof.Rows
def mPopU (i : Nat) (g : D → Env → Option Env) : Env → Out := fun env => match env[i]? with
  | some (some (true, .lst ds)) => if lfL ds = true then (match ds.getLast? with
    | some d => match g d (env.set i (some (true, .lst ds.dropLast))) with
      | some e => .nx e
      | none => .no
    | none => .no) else .no
  | _ => .no
theorem ss_popU {X : Cx} {t : Ctx} {i : Nat} {tg call : Expr} {pos : Pos} {g : D → Env → Option Env} {Zs : List Nat} (hK : t.K.K = X.K) (h : PE X call (tBM0 X.K "list" rPop (tVar i))) (hg : PG X tg (gP t Zs g)) (hs : swapsWithSole [tg] call pos.line X.env = pure false := by rfl) (hw : swappedStores [tg] call X.env = pure none := by rfl)
    (h1 : (assignEach [tg] X.env).map (·.2) = [assign tg X.env] := by rfl) : PS X (.Assign [tg] call pos) (sP t (mPopU i g)) := by
  refine (ps_asg h hg hs hw h1).imp fun D σ H ⟨B, O, ow, env, re, o⟩ => ?_
  unfold mPopU at o
  split at o
  case h_2 => exact o.elim
  rename_i ds e
  by_cases hl : lfL ds = true
  case neg => simp only [if_neg hl] at o; exact o.elim
  simp only [if_pos hl] at o
  cases hd : ds.getLast? with
  | none => simp only [hd] at o; exact o.elim
  | some d =>
    simp only [hd] at o
    refine pop_read hK re e hl hd fun v a ow' H1 _ r re' => ?_
    refine ⟨B, O, ow', _, d, re', r, ?_⟩
    cases qg : g d (env.set i (some (true, .lst ds.dropLast))) with
    | none => rw [qg] at o; exact o
    | some e1 => rw [qg] at o; exact fun ow2 σ2 _ _ re2 => o ow2 σ2 H1 re2
end S

/-! t = a + b; if c: return x; j = t.index(k) - s, where t's object is known from its making on -/
namespace S
open PySem L2 PySem.Spec PyProof.Rows
def knInt : D → Option Int
  | .int i => some i
  | _ => none
def knInts : List D → Option (List Int)
  | [] => some []
  | d :: ds => (knInt d).bind fun i => (knInts ds).map (i :: ·)
theorem knInts_ints : ∀ (ns : List Int), knInts (ns.map D.int) = some ns
  | [] => rfl
  | n :: ns => by simp [knInts, knInt, knInts_ints ns]
theorem knInts_eq : ∀ {ds : List D} {ns : List Int}, knInts ds = some ns → ds = ns.map D.int
  | [], ns, h => by simp [knInts] at h; subst h; rfl
  | d :: ds, ns, h => by
    cases d with
    | int i =>
      simp only [knInts, knInt, Option.bind_some, Option.map_eq_some_iff] at h
      obtain ⟨ms, h1, rfl⟩ := h
      rw [knInts_eq h1]; rfl
    | _ => simp [knInts, knInt] at h
/-- a new tuple, its object known -/
def KnT (H : Hp) (p : Addr) (xs : List V) : Prop := ∃ o : Obj, o.dict = none ∧ o.cls = .type "tuple" ∧ H p = some (.frz o (.tup xs))
def rCatN (K : PySem.W.Frag) : R2 := fun x y H Q => ∃ a b xs ys, x = .ref a ∧ y = .ref b ∧ SqT K H a xs ∧ SqT K H b ys ∧ xs ≠ [] ∧ ys ≠ [] ∧ xs.length + ys.length ≤ sizeLine ∧
  ∀ p (o : Obj), H p = none → o.dict = none → o.cls = .type "tuple" → Q (.ref p) (upd H p (.frz o (.tup (xs ++ ys))))
section
variable {X : Cx}
theorem op_catN : OpR X (binaryOp .Add) (rCatN X.K) := by
  intro pins s σ H x y v u Q I rx ry h
  obtain ⟨a, b, xs, ys, rfl, rfl, ha, hb, hx, hy, hz, q2⟩ := h
  cases rx
  cases ry
  obtain ⟨its, r1, p1, _⟩ := I.tuple ha
  obtain ⟨its2, r2, p2, _⟩ := I.tuple hb
  refine HT.cat_tup p1 p2 (fun z => hx (r1.nil_iff.mp z)) (fun z => (hy (r2.nil_iff.mp z)).elim) (fun z => ?_) (by rw [← r1.length, ← r2.length]; exact hz)
  refine ⟨.ref s.heap.objs.size, _, I.laid (t' := s.toks) (o := .frz { cls := .type "tuple", data := .seq (its ++ its2).toArray } (.tup (xs ++ ys))) (fun b ob q => Heap.get?_push_of_some _ q) (Nat.le_refl _) ?_, rfl, q2 _ _ (I.hok.fresh (Nat.le_refl _)) rfl rfl⟩
  exact ⟨Heap.get?_push_size _ rfl, by rw [List.length_append]; exact hz, _, r1.append r2, IsTup.new _ _⟩
def rIdxN : V → List V → Hp → VK → Prop := fun x xs H Q => ∃ (p : Addr) (ns : List Int) (k : Int), x = .ref p ∧ xs = [.int k] ∧ KnT H p (ns.map V.int) ∧ k ∈ ns ∧ Q (.int (ns.idxOf k : Nat)) H
theorem mt_idxN : MtR X "tuple.index" rIdxN := by
  intro pins s σ H x xs v us Q I rx rxs h
  obtain ⟨p, ns, k, rfl, rfl, ⟨o, _, _, hp⟩, hk, q⟩ := h
  cases rx
  obtain ⟨u, rfl, ru⟩ := rxs.one
  obtain ⟨t, rfl⟩ := ru
  obtain ⟨z, its, r, pl⟩ := (show Rd H p (.tup (ns.map V.int)) from .inr ⟨o, hp⟩).ok I.hok
  refine PySem.SeqAt.tuple_index_ints (s := s) (show s.heap.IsTuple p its.toArray from pl) (Vals.ints r) hk ⟨.int (ns.idxOf k : Nat), H, I.tok _, ⟨_, rfl⟩, q⟩
variable {o e : Expr} {es : List Expr} {to : TE} {t : TA} {name : Str} {apos cpos : Pos} {id : String} {r : V → List V → Hp → VK → Prop}
/-- a method of a tuple whose object is known -/
def tBMN (r : V → List V → Hp → VK → Prop) (to : TE) (t : TA) : TE := fun σ H Q => to σ H fun x H1 => (∃ p xs, x = .ref p ∧ KnT H1 p xs) ∧ t σ H1 fun xs H2 => r x xs H2 Q
theorem pe_bmN (slot : Slot "tuple" name id) (hty : typeOf (.builtin id) = pure (.type "method_descriptor")) (hm : MtR X id r) (ho : PE X o to) (ha : PA X (e :: es) t)
    (hbase : attributeBase o name X.env (eval o X.env) = eval o X.env := by rfl)
    (hfew : ((backTo cpos (starEach (e :: es) X.env)).all (fun x => !x.1) && (backToKw cpos (keywordEach [] X.env)).all (fun x => x.1.isSome)
      && decide ((e :: es).length + ([] : List Keyword).length + (if ([] : List Keyword).isEmpty then 0 else 1) < 30)) = true := by rfl)
    (hline : (apos.endLine == cpos.line) = true := by rfl) (hs : starEach (e :: es) X.env = (false, eval e X.env) :: starEach es X.env := by rfl) (hplain : (backTo cpos (starEach es X.env)).any (·.1) = false := by rfl) :
    PE X (.Call (.Attribute o name apos) (e :: es) [] cpos) (tBMN r to t) := by
  refine ⟨fun pins s σ H Q I h => ?_⟩
  refine wpAny_Call_method_late hbase hfew hline rfl (thn (ho.run pins s σ H _ I h) fun v s1 ⟨x, H1, I1, r1, ⟨p, xs, e1, ob, hd, hc, hp⟩, q1⟩ => ?_)
  subst e1
  cases r1
  have hg : s1.heap.get? p = some ob := (I1.hok p _ hp).1
  refine ⟨"tuple", id, PySem.F.plainAttrs_tuple, slot, hty, ⟨ob, hg, hc⟩, fun a e2 => by cases e2; exact ⟨ob, hg, hd⟩, ?_⟩
  have hA := ha.run cpos pins s1 σ H1 _ I1 q1
  rw [hs] at hA ⊢
  refine Calls.callWith_builtin (by show (false || (backTo cpos (starEach es X.env)).any (·.1)) = false; rw [hplain] <;> rfl) (Calls.evalArgs_plain ?_)
  exact thn hA fun us s2 ⟨vs, H2, I2, r2, q2⟩ => hm pins s2 σ H2 (.ref p) vs (.ref p) us Q I2 rfl r2 q2
end
def mGreat (i j : Nat) (pl pr : Env → RD) (c : Env → Rs Bool) (b : Bool) (k s : Int) : Env → Out := fun env => match pl env with
  | .ok (_, .tup as) => match pr env with
    | .ok (_, .tup bs) => if (as ≠ [] ∧ bs ≠ [] ∧ as.length + bs.length ≤ sizeLine) ∧ (i < env.length ∧ i ≠ j) ∧ lfL as = true ∧ lfL bs = true then (match c (env.set i (some (false, .tup (as ++ bs)))) with
      | .ok true => .rt false (.bl b)
      | .ok false => match knInts (as ++ bs) with
        | some ns => if k ∈ ns then .nx ((env.set i (some (false, .tup (as ++ bs)))).set j (some (false, .int (ns.idxOf k - s)))) else .no
        | none => .no
      | _ => .no) else .no
    | _ => .no
  | _ => .no
theorem rpl_ints {K : PySem.W.Frag} {H : Hp} {O : Addr → Prop} : ∀ {ns : List Int} {vs : List V}, RpL K H O vs (ns.map D.int) → vs = ns.map V.int
  | [], _, .nil => rfl
  | n :: ns, _, .cons r rs => by
    cases r
    rw [rpl_ints rs]; rfl
theorem rp_of0' {K : PySem.W.Frag} {H : Hp} {O : Addr → Prop} {v : V} {d : D} (h : Tr K H [] v d) : Rp K H O v d := h.rp fun b m => absurd m (by simp)
section
variable {X : Cx} {t : Ctx} {i j : Nat} {Rl Rr : List Nat} {pl pr : Env → RD} {c : Env → Rs Bool} {el er ec eo : Expr} {x y : Str} {rest : List Stmt} {b : Bool} {k s : Int} {jc jk js : _} {pk ps pb pc : Pos}
  {p1 p2 p3 p4 p5 p6 p7 : Pos} {apos cpos : Pos} {mr : Env → Out}
theorem ss_great (hK : t.K.K = X.K) (hN : X.N.Nodup) (hi : X.N[i]? = some x) (hx : Loc X.env.scope x) (hj : X.N[j]? = some y) (hy : Loc X.env.scope y)
    (hl : PE X el (eP t Rl pl)) (hr : PE X er (eP t Rr pr)) (hc : PT X ec (tP t c)) (hv : PE X eo (tVar i)) (hb : PE X (.Constant (.bool b) jc pc) (tC (.bl b))) (hk : PE X (.Constant (.int k) jk pk) (tC (.int k))) (hsi : PE X (.Constant (.int s) js ps) (tC (.int s))) (hrest : PSs X rest (sP t mr))
    (hs : swapsWith (.BinOp el .Add er p2) (some (.Name x p1)) p3.line X.env = pure false := by rfl)
    (hf : X.fn x = true ∨ X.env.scope.names.lookup x = some .local := by first | exact .inl rfl | exact .inr rfl | assumption)
    (hs2 : swapsWith (.BinOp (.Call (.Attribute eo "index" apos) [.Constant (.int k) jk pk] [] cpos) .Sub (.Constant (.int s) js ps) p4) (some (.Name y p5)) p6.line X.env = pure false := by rfl)
    (hf2 : X.fn y = true ∨ X.env.scope.names.lookup y = some .local := by first | exact .inl rfl | exact .inr rfl | assumption)
    (hbase : attributeBase eo "index" X.env (eval eo X.env) = eval eo X.env := by rfl)
    (hfew : ((backTo cpos (starEach [Expr.Constant (.int k) jk pk] X.env)).all (fun x => !x.1) && (backToKw cpos (keywordEach [] X.env)).all (fun x => x.1.isSome)
      && decide (([Expr.Constant (.int k) jk pk] : List Expr).length + ([] : List Keyword).length + (if ([] : List Keyword).isEmpty then 0 else 1) < 30)) = true := by rfl)
    (hline : (apos.endLine == cpos.line) = true := by rfl) (hst : starEach [Expr.Constant (.int k) jk pk] X.env = (false, eval (Expr.Constant (.int k) jk pk) X.env) :: starEach [] X.env := by rfl) (hplain : (backTo cpos (starEach [] X.env)).any (·.1) = false := by rfl) :
    PSs X (.Assign [.Name x p1] (.BinOp el .Add er p2) p3 :: .If ec [.Return (some (.Constant (.bool b) jc pc)) pb] [] p7 ::
      .Assign [.Name y p5] (.BinOp (.Call (.Attribute eo "index" apos) [.Constant (.int k) jk pk] [] cpos) .Sub (.Constant (.int s) js ps) p4) p6 :: rest) (sP t (mSeq (mGreat i j pl pr c b k s) mr)) := by
  refine (pss_cons (ps_set hN hi hx (pe_op op_catN hl hr) hs hf) (pss_cons (ps_if hc (pss_one (ps_ret hb)) pss_nil) (pss_cons (ps_set hN hj hy (pe_op op_sub (pe_bmN PySem.F.slot_tuple_index PySem.F.type_tuple_index mt_idxN hv (pa_cons hk pa_nil hst) hbase hfew hline hst hplain) hsi) hs2 hf2) hrest))).imp fun D σ H ⟨B, O, ow, env, re, o⟩ => ?_
  unfold mSeq mGreat at o
  cases q1 : pl env with
  | ex n a => simp only [q1] at o; exact o.elim
  | no => simp only [q1] at o; exact o.elim
  | ok z1 =>
    obtain ⟨fr1, d1⟩ := z1
    simp only [q1] at o
    cases d1 with
    | tup as =>
      simp only at o
      cases q2 : pr env with
      | ex n a => simp only [q2] at o; exact o.elim
      | no => simp only [q2] at o; exact o.elim
      | ok z2 =>
        obtain ⟨fr2, d2⟩ := z2
        simp only [q2] at o
        cases d2 with
        | tup bs =>
          simp only at o
          by_cases hc1 : (as ≠ [] ∧ bs ≠ [] ∧ as.length + bs.length ≤ sizeLine) ∧ (i < env.length ∧ i ≠ j) ∧ lfL as = true ∧ lfL bs = true
          case neg => simp only [if_neg hc1] at o; exact o.elim
          simp only [if_pos hc1] at o
          obtain ⟨⟨ha, hb', hz⟩, ⟨hil, hij⟩, hla, hlb⟩ := hc1
          refine ⟨B, O, ow, env, re, ?_⟩
          rw [q1]
          intro v1 H1 s1 rv1
          have re1 := re.same s1
          refine ⟨B, O, ow, env, re1, ?_⟩
          rw [q2]
          intro v2 H2 s2 rv2
          have re2 := re1.same s2
          have r1 : Rp t.K H2 (Ow O (owSet ow i [])) v1 (.tup as) := rp_of0' ((((rv1.rp re.odx (O' := OwX O Rl ow) fun _ z => z).tr (by simpa [lf] using hla))).same s2)
          have r2 : Rp t.K H2 (Ow O (owSet ow i [])) v2 (.tup bs) := rp_of0' ((rv2.rp re1.odx (O' := OwX O Rr ow) fun _ z => z).tr (by simpa [lf] using hlb))
          cases r1 with
          | @tup a xs _ h1 h2 =>
            cases r2 with
            | @tup a' ys _ h3 h4 =>
              have hx0 : xs ≠ [] := fun z => by subst z; cases h2; exact ha rfl
              have hy0 : ys ≠ [] := fun z => by subst z; cases h4; exact hb' rfl
              refine ⟨a, a', xs, ys, rfl, rfl, hK ▸ h1, hK ▸ h3, hx0, hy0, by rw [h2.len, h4.len]; exact hz, fun p ob hp hd hcl => ?_⟩
              have s3 : Sm t.K.T H2 (upd H2 p (.frz ob (.tup (xs ++ ys)))) := upd_new hp
              have rT : Rp t.K (upd H2 p (.frz ob (.tup (xs ++ ys)))) (Ow O (owSet ow i [])) (.ref p) (.tup (as ++ bs)) := by
                exact .tup (.inl (.inr ⟨ob, upd_same⟩)) ((h2.append h4).same s3)
              have re3 := re2.putF (i := i) s3 rT
              have hil' : i < σ.length := by rw [re.len]; exact hil
              generalize hE : env.set i (some (false, S.D.tup (as ++ bs))) = env1 at re3 o
              generalize hH3 : upd H2 p (.frz ob (.tup (xs ++ ys))) = H3 at re3 s3
              have hp3 : H3 p = some (.frz ob (.tup (xs ++ ys))) := by rw [← hH3]; exact upd_same
              have h24 : RpL t.K H3 (Ow O (owSet ow i [])) (xs ++ ys) (as ++ bs) := (h2.append h4).same s3
              refine ⟨B, O, _, env1, re3, ?_⟩
              cases q3 : c env1 with
              | ex n a => simp only [q3] at o; exact o.elim
              | no => simp only [q3] at o; exact o.elim
              | ok kk =>
                simp only [q3] at o
                intro H4 s4
                have re4 := re3.same s4
                cases kk with
                | true => exact (if_pos rfl).mpr (o (.bl b) H4 re4.ext (.bl b))
                | false =>
                  refine (if_neg Bool.false_ne_true).mpr ?_
                  simp only at o
                  cases q4 : knInts (as ++ bs) with
                  | none => simp only [q4] at o; exact o.elim
                  | some ns =>
                    simp only [q4] at o
                    by_cases hk0 : k ∈ ns
                    case neg => simp only [if_neg hk0] at o; exact o.elim
                    simp only [if_pos hk0] at o
                    have hxy : xs ++ ys = ns.map V.int := by
                      rw [knInts_eq q4] at h24
                      exact rpl_ints h24
                    have hkn : KnT H4 p (ns.map V.int) := ⟨ob, hd, hcl, by rw [← hxy]; exact s4.keep _ _ nt_frz hp3⟩
                    refine ⟨.ref p, List.getElem?_set_self hil', ⟨p, _, rfl, hkn⟩, p, ns, k, rfl, rfl, hkn, hk0, _, s, rfl, rfl, ?_⟩
                    exact ⟨B, O, _, _, re4.putF (i := j) (Sm.refl _) (.int _), o⟩
        | _ => exact o.elim
    | _ => exact o.elim
end
end S

/-! reading the pure functions by simp -/
namespace S
open PySem PySem.Spec PyProof.Rows L2

def Out.andThen (o : Out) (b : Env → Out) : Out := match o with
  | .nx e => b e
  | o => o
@[simp] theorem andThen_nx {b : Env → Out} {e : Env} : (Out.nx e).andThen b = b e := (rfl)
@[simp] theorem andThen_bk {b : Env → Out} {e : Env} : (Out.bk e).andThen b = .bk e := (rfl)
@[simp] theorem andThen_ct {b : Env → Out} {e : Env} : (Out.ct e).andThen b = .ct e := (rfl)
@[simp] theorem andThen_rt {b : Env → Out} {fr : Bool} {d : D} : (Out.rt fr d).andThen b = .rt fr d := (rfl)
@[simp] theorem andThen_ex {b : Env → Out} {n : Str} {a : Option D} : (Out.ex n a).andThen b = .ex n a := (rfl)
@[simp] theorem andThen_no {b : Env → Out} : Out.no.andThen b = .no := (rfl)
@[simp] theorem andThen_ite {p : Prop} [Decidable p] {x y : Out} {b : Env → Out} : (if p then x else y).andThen b = if p then x.andThen b else y.andThen b := by split <;> rfl
def Rs.ifK (r : Rs Bool) (a b : Env → Out) (env : Env) : Out := match r with
  | .ok k => if k = true then a env else b env
  | .ex n a => .ex n a
  | .no => .no
@[simp] theorem ifK_ok {k : Bool} {a b : Env → Out} {env : Env} : (Rs.ok k).ifK a b env = if k = true then a env else b env := (rfl)
@[simp] theorem ifK_ex {n : Str} {d : Option D} {a b : Env → Out} {env : Env} : (Rs.ex n d).ifK a b env = .ex n d := (rfl)
@[simp] theorem ifK_no {a b : Env → Out} {env : Env} : (Rs.no).ifK a b env = .no := (rfl)
@[simp] theorem bind_ite {α β : Type} {p : Prop} [Decidable p] {x y : Rs α} {f : α → Rs β} : (if p then x else y).bind f = if p then x.bind f else y.bind f := by split <;> rfl
@[simp] theorem mOf_ok {fr : Bool} {d : D} {k : Bool → D → Out} : mOf (.ok (fr, d)) k = k fr d := (rfl)
@[simp] theorem mOf_ex {n : Str} {a : Option D} {k : Bool → D → Out} : mOf (.ex n a) k = .ex n a := (rfl)
@[simp] theorem mOf_no {k : Bool → D → Out} : mOf .no k = .no := (rfl)
@[simp] theorem mOf_ite {p : Prop} [Decidable p] {x y : RD} {k : Bool → D → Out} : mOf (if p then x else y) k = if p then mOf x k else mOf y k := by split <;> rfl

/-! the words -/
def lookE (o : Option (Option (Bool × D))) : RD := match o with
  | some (some (_, d)) => .ok (false, d)
  | _ => .no
@[simp] theorem lookE_some {b : Bool} {d : D} : lookE (some (some (b, d))) = .ok (false, d) := (rfl)
@[simp] theorem eVar_ap {i : Nat} {env : Env} : eVar i env = lookE env[i]? := (rfl)
@[simp] theorem eC_ap {d : D} {env : Env} : eC d env = .ok (false, d) := (rfl)
@[simp] theorem eOp_ap {g : D → D → RD} {a b : Env → RD} {env : Env} : eOp g a b env = (a env).bind fun x => (b env).bind fun y => g x.2 y.2 := (rfl)
@[simp] theorem eUn_ap {g : D → RD} {a : Env → RD} {env : Env} : eUn g a env = (a env).bind fun x => g x.2 := (rfl)
@[simp] theorem aNil_ap {env : Env} : aNil env = .ok [] := (rfl)
@[simp] theorem aCons_ap {a : Env → RD} {r : Env → Rs (List D)} {env : Env} : aCons a r env = (a env).bind fun x => (r env).bind fun xs => .ok (x.2 :: xs) := (rfl)
@[simp] theorem eFn_ap {f : List D → RD} {r : Env → Rs (List D)} {env : Env} : eFn f r env = (r env).bind f := (rfl)
@[simp] theorem tB_bl {b : Bool} : tB (.bl b) = .ok b := (rfl)
@[simp] theorem tE_ap {a : Env → RD} {env : Env} : tE a env = (a env).bind fun x => tB x.2 := (rfl)
@[simp] theorem tAnd_ap {a b : Env → Rs Bool} {env : Env} : tAnd a b env = (a env).bind fun k => if k = true then b env else .ok false := (rfl)
@[simp] theorem tOr_ap {a b : Env → Rs Bool} {env : Env} : tOr a b env = (a env).bind fun k => if k = true then .ok true else b env := (rfl)
@[simp] theorem tNot_ap {a : Env → Rs Bool} {env : Env} : tNot a env = (a env).bind fun k => .ok !k := (rfl)
@[simp] theorem eAnd_ap {a b : Env → RD} {env : Env} : eAnd a b env = (a env).bind fun x => (tB x.2).bind fun k => if k = true then b env else .ok (false, .bl false) := (rfl)
@[simp] theorem eOr_ap {a b : Env → RD} {env : Env} : eOr a b env = (a env).bind fun x => (tB x.2).bind fun k => if k = true then .ok (false, .bl true) else b env := (rfl)
@[simp] theorem eNot_ap {a : Env → RD} {env : Env} : eNot a env = (a env).bind fun x => (tB x.2).bind fun k => .ok (false, .bl !k) := (rfl)
@[simp] theorem eIf_ap {c : Env → Rs Bool} {a b : Env → RD} {env : Env} : eIf c a b env = (c env).bind fun k => if k = true then a env else b env := (rfl)
@[simp] theorem szl : sizeLine = 16777216 := sizeLine_eq
@[simp] theorem eTup_ap {r : Env → Rs (List D)} {env : Env} : eTup r env = (r env).bind fun ds => if ds.length ≤ sizeLine then .ok (false, .tup ds) else .no := (rfl)
@[simp] theorem eLst_ap {r : Env → Rs (List D)} {env : Env} : eLst r env = (r env).bind fun ds => if ds.length ≤ sizeLine then .ok (lfL ds, .lst ds) else .no := (rfl)
@[simp] theorem eIsi_ap {T : String} {m : Env → RD} {env : Env} : eIsi T m env = (m env).bind fun x => fIsi T x.2 := (rfl)
@[simp] theorem eSl_ap {m : Env → RD} {lo hi : Env → Rs (Option Int)} {env : Env} : eSl m lo hi env = (m env).bind fun x => (lo env).bind fun l => (hi env).bind fun h => gSl l h x.2 := (rfl)
@[simp] theorem oNone_ap {env : Env} : oNone env = .ok none := (rfl)
def toO (d : D) : Rs (Option Int) := match d with
  | .int i => .ok (some i)
  | _ => .no
@[simp] theorem toO_int {i : Int} : toO (.int i) = .ok (some i) := (rfl)
@[simp] theorem oSome_ap {m : Env → RD} {env : Env} : oSome m env = (m env).bind fun x => toO x.2 := (rfl)
@[simp] theorem mNil_ap {env : Env} : mNil env = .nx env := (rfl)
@[simp] theorem mSeq_ap {a b : Env → Out} {env : Env} : mSeq a b env = (a env).andThen b := by unfold mSeq Out.andThen; cases a env <;> rfl
@[simp] theorem mSet_ap {i : Nat} {R : List Nat} {m : Env → RD} {env : Env} : mSet i R m env = mOf (m env) fun fr d => .nx (bindS i R fr d env) := (rfl)
@[simp] theorem mDrop_ap {m : Env → RD} {env : Env} : mDrop m env = mOf (m env) fun _ _ => .nx env := (rfl)
@[simp] theorem mRet_ap {m : Env → RD} {env : Env} : mRet m env = mOf (m env) fun fr d => .rt fr d := (rfl)
@[simp] theorem mRetN_ap {env : Env} : mRetN env = .rt false .non := (rfl)
def retO (o : Option (Option (Bool × D))) : Out := match o with
  | some (some (o, d)) => .rt o d
  | _ => .no
@[simp] theorem retO_some {b : Bool} {d : D} : retO (some (some (b, d))) = .rt b d := (rfl)
@[simp] theorem mRetV_ap {i : Nat} {env : Env} : mRetV i env = retO env[i]? := (rfl)
@[simp] theorem mIf_ap {c : Env → Rs Bool} {a b : Env → Out} {env : Env} : mIf c a b env = (c env).ifK a b env := (rfl)
@[simp] theorem mBreak_ap {env : Env} : mBreak env = .bk env := (rfl)
@[simp] theorem mCont_ap {env : Env} : mCont env = .ct env := (rfl)
@[simp] theorem mRaise_ap {n : Str} {a : Option D} {env : Env} : mRaise n a env = .ex n a := (rfl)
@[simp] theorem tYes_ap {env : Env} : tYes env = .ok true := (rfl)
@[simp] theorem gName_ap {i : Nat} {d : D} {env : Env} : gName i d env = some (env.set i (some (false, d))) := (rfl)
@[simp] theorem gNil_ap {env : Env} : gNil [] env = some env := (rfl)
@[simp] theorem gCons_ap {a : D → Env → Option Env} {r : List D → Env → Option Env} {d : D} {ds : List D} {env : Env} : gCons a r (d :: ds) env = (a d env).bind (r ds) := (rfl)
@[simp] theorem gTup_ap {n : Nat} {r : List D → Env → Option Env} {ds : List D} {env : Env} : gTup n r (.tup ds) env = if ds.length = n then r ds env else none := (rfl)

/-! binding -/
@[simp] theorem frz_nil {env : Env} : frz [] env = env := (rfl)
@[simp] theorem frz_cons {i : Nat} {R : List Nat} {env : Env} : frz (i :: R) env = (frz R env).modify i (Option.map fun p => (false, p.2)) := (rfl)
@[simp] theorem bindS_non {i : Nat} {R : List Nat} {fr : Bool} {env : Env} : bindS i R fr .non env = env.set i (some (false, .non)) := (rfl)
@[simp] theorem bindS_bl {i : Nat} {R : List Nat} {fr : Bool} {b : Bool} {env : Env} : bindS i R fr (.bl b) env = env.set i (some (false, .bl b)) := (rfl)
@[simp] theorem bindS_int {i : Nat} {R : List Nat} {fr : Bool} {n : Int} {env : Env} : bindS i R fr (.int n) env = env.set i (some (false, .int n)) := (rfl)
@[simp] theorem bindS_str {i : Nat} {R : List Nat} {fr : Bool} {n : Str} {env : Env} : bindS i R fr (.str n) env = env.set i (some (false, .str n)) := (rfl)
@[simp] theorem bindS_lstT {i : Nat} {R : List Nat} {xs : List D} {env : Env} : bindS i R true (.lst xs) env = env.set i (some (true, .lst xs)) := (rfl)
@[simp] theorem bindS_lstF {i : Nat} {R : List Nat} {xs : List D} {env : Env} : bindS i R false (.lst xs) env = (frz R env).set i (some (false, .lst xs)) := (rfl)
theorem bindS_lf {i : Nat} {R : List Nat} {fr : Bool} {d : D} {env : Env} (h : lf d = true) : bindS i R fr d env = env.set i (some (false, d)) := if_pos h
@[simp] theorem bindS_tup {i : Nat} {R : List Nat} {fr : Bool} {xs : List D} {env : Env} : bindS i R fr (.tup xs) env = if lfL xs = true then env.set i (some (false, .tup xs)) else if fr = true then env.set i (some (true, .tup xs)) else (frz R env).set i (some (false, .tup xs)) := (rfl)
@[simp] theorem lf_non : lf .non = true := (rfl)
@[simp] theorem lf_bl {b : Bool} : lf (.bl b) = true := (rfl)
@[simp] theorem lf_int {b : Int} : lf (.int b) = true := (rfl)
@[simp] theorem lf_str {b : Str} : lf (.str b) = true := (rfl)
@[simp] theorem lf_tup {b : List D} : lf (.tup b) = lfL b := (rfl)
@[simp] theorem lf_lst {b : List D} : lf (.lst b) = false := (rfl)
@[simp] theorem lfL_nil : lfL [] = true := (rfl)
@[simp] theorem lfL_cons {x : D} {xs : List D} : lfL (x :: xs) = (lf x && lfL xs) := (rfl)
@[simp] theorem lfL_append {xs ys : List D} : lfL (xs ++ ys) = (lfL xs && lfL ys) := by
  induction xs with
  | nil => simp
  | cons x xs ih => simp [ih, Bool.and_assoc]
abbrev intsD (ns : List Int) : List D := ns.map D.int
@[simp] theorem lfL_ints {ns : List Int} : lfL (ns.map D.int) = true := by induction ns with
  | nil => rfl
  | cons n ns ih => simpa using ih
theorem lfL_of {xs : List D} (h : ∀ x ∈ xs, lf x = true) : lfL xs = true := by
  induction xs with
  | nil => rfl
  | cons n ns ih => simp [h n (by simp), ih fun x m => h x (by simp [m])]
theorem lfL_map {α : Type} {f : α → D} {xs : List α} (h : ∀ x, lf (f x) = true) : lfL (xs.map f) = true := lfL_of (by simp [h])

/-! operations -/
@[simp] theorem b2_eq {b : Bool} : b2 b = .ok (false, .bl b) := (rfl)
@[simp] theorem i2_eq {b : Int} : i2 b = .ok (false, .int b) := (rfl)
@[simp] theorem gAdd_int {i j : Int} : gAdd (.int i) (.int j) = .ok (false, .int (i + j)) := (rfl)
@[simp] theorem gAdd_tup {xs ys : List D} : gAdd (.tup xs) (.tup ys) = if xs.length + ys.length ≤ sizeLine then .ok (false, .tup (xs ++ ys)) else .no := (rfl)
@[simp] theorem gAdd_lst {xs ys : List D} : gAdd (.lst xs) (.lst ys) = if xs.length + ys.length ≤ sizeLine then .ok (lfL (xs ++ ys), .lst (xs ++ ys)) else .no := (rfl)
@[simp] theorem gAdd_str {a b : Str} : gAdd (.str a) (.str b) = if a.length + b.length ≤ sizeLine then .ok (false, .str (a ++ b)) else .no := (rfl)
@[simp] theorem gSub_int {i j : Int} : gSub (.int i) (.int j) = .ok (false, .int (i - j)) := (rfl)
@[simp] theorem gMul_int {i j : Int} : gMul (.int i) (.int j) = if i.natAbs.log2 + j.natAbs.log2 < 1000000 then .ok (false, .int (i * j)) else .no := (rfl)
@[simp] theorem gMul_tup {xs : List D} {k : Int} : gMul (.tup xs) (.int k) = if xs.length * k.toNat ≤ sizeLine ∧ -(2 ^ 63) ≤ k ∧ k < 2 ^ 63 then .ok (false, .tup (List.replicate k.toNat xs).flatten) else .no := (rfl)
@[simp] theorem gMul_lst {xs : List D} {k : Int} : gMul (.lst xs) (.int k) = if xs.length * k.toNat ≤ sizeLine ∧ -(2 ^ 63) ≤ k ∧ k < 2 ^ 63 then .ok (lfL (List.replicate k.toNat xs).flatten, .lst (List.replicate k.toNat xs).flatten) else .no := (rfl)
@[simp] theorem gMod_int {i j : Int} : gMod (.int i) (.int j) = if 0 < j then .ok (false, .int (i % j)) else .no := (rfl)
@[simp] theorem gFdiv_int {i j : Int} : gFdiv (.int i) (.int j) = if 0 < j ∧ j.natAbs.log2 < 9000 then .ok (false, .int (i / j)) else .no := (rfl)
@[simp] theorem gPow_int {i j : Int} : gPow (.int i) (.int j) = if 0 ≤ j ∧ j ≤ 1000000 ∧ i.natAbs < 2 ^ 64 then .ok (false, .int (i ^ j.toNat)) else .no := (rfl)
@[simp] theorem gNeg_int {i : Int} : gNeg (.int i) = .ok (false, .int (-i)) := (rfl)
@[simp] theorem gLt_int {i j : Int} : gLt (.int i) (.int j) = .ok (false, .bl (decide (i < j))) := (rfl)
@[simp] theorem gLe_int {i j : Int} : gLe (.int i) (.int j) = .ok (false, .bl (decide (i ≤ j))) := (rfl)
@[simp] theorem gGt_int {i j : Int} : gGt (.int i) (.int j) = .ok (false, .bl (decide (j < i))) := (rfl)
@[simp] theorem gGe_int {i j : Int} : gGe (.int i) (.int j) = .ok (false, .bl (decide (j ≤ i))) := (rfl)
@[simp] theorem okEq_int {i : Int} : okEq (.int i) = true := by simp [okEq, plain, py, SeqAt.shaped, PyData.canLay0, PyData.depth]
@[simp] theorem okEq_bl {i : Bool} : okEq (.bl i) = true := by simp [okEq, plain, py, SeqAt.shaped, PyData.canLay0, PyData.depth]
@[simp] theorem okEq_non : okEq .non = true := by simp [okEq, plain, py, SeqAt.shaped, PyData.canLay0, PyData.depth]
@[simp] theorem eqv_int {i j : Int} : eqv (.int i) (.int j) = decide (i = j) := by simp [eqv, py, PyData.eqv]; rfl
@[simp] theorem eqv_bl {i j : Bool} : eqv (.bl i) (.bl j) = decide (i = j) := by simp [eqv, py, PyData.eqv]; cases i <;> cases j <;> rfl
theorem gEq_ok {x y : D} (hx : okEq x = true) (hy : okEq y = true) : gEq x y = .ok (false, .bl (eqv x y)) := if_pos ⟨hx, hy⟩
theorem gNe_ok {x y : D} (hx : okEq x = true) (hy : okEq y = true) : gNe x y = .ok (false, .bl (!eqv x y)) := if_pos ⟨hx, hy⟩
@[simp] theorem gEq_int {i j : Int} : gEq (.int i) (.int j) = .ok (false, .bl (decide (i = j))) := by rw [gEq_ok (by simp) (by simp), eqv_int]
@[simp] theorem gNe_int {i j : Int} : gNe (.int i) (.int j) = .ok (false, .bl (!decide (i = j))) := by rw [gNe_ok (by simp) (by simp), eqv_int]
@[simp] theorem gEq_bl {i j : Bool} : gEq (.bl i) (.bl j) = .ok (false, .bl (decide (i = j))) := by rw [gEq_ok (by simp) (by simp), eqv_bl]
@[simp] theorem gNe_bl {i j : Bool} : gNe (.bl i) (.bl j) = .ok (false, .bl (!decide (i = j))) := by rw [gNe_ok (by simp) (by simp), eqv_bl]
@[simp] theorem fLen_lst {xs : List D} : fLen [.lst xs] = .ok (false, .int xs.length) := (rfl)
@[simp] theorem fLen_tup {xs : List D} : fLen [.tup xs] = .ok (false, .int xs.length) := (rfl)
@[simp] theorem fLen_scr {ns : List Int} : fLen [.scr ns] = .ok (false, .int ns.length) := (rfl)
@[simp] theorem fLen_str {z : Str} : fLen [.str z] = if z.length ≤ sizeLine then .ok (false, .int z.length) else .no := (rfl)
@[simp] theorem fAbs_int {i : Int} : fAbs [.int i] = .ok (false, .int (if i < 0 then -i else i)) := (rfl)
@[simp] theorem fMax_int {i j : Int} : fMax [.int i, .int j] = .ok (false, .int (if j > i then j else i)) := (rfl)
@[simp] theorem fMin_int {i j : Int} : fMin [.int i, .int j] = .ok (false, .int (if j < i then j else i)) := (rfl)
@[simp] theorem fTuple_lst {xs : List D} : fTuple [.lst xs] = .ok (false, .tup xs) := (rfl)
@[simp] theorem fTuple_tup {xs : List D} : fTuple [.tup xs] = .ok (false, .tup xs) := (rfl)
@[simp] theorem fList_lst {xs : List D} : fList [.lst xs] = .ok (lfL xs, .lst xs) := (rfl)
@[simp] theorem fList_tup {xs : List D} : fList [.tup xs] = .ok (lfL xs, .lst xs) := (rfl)
@[simp] theorem fStr_int {i : Int} : fStr [.int i] = if i.natAbs.log2 < 1920 then .ok (false, .str (toString i)) else .no := (rfl)
@[simp] theorem gSl_lst {xs : List D} {lo hi : Option Int} : gSl lo hi (.lst xs) = .ok (lfL (cutD xs lo hi), .lst (cutD xs lo hi)) := (rfl)
@[simp] theorem gSl_tup {xs : List D} {lo hi : Option Int} : gSl lo hi (.tup xs) = .ok (false, .tup (cutD xs lo hi)) := (rfl)
def ixO (o : Option D) : RD := match o with
  | some d => .ok (false, d)
  | none => .no
@[simp] theorem ixO_some {d : D} : ixO (some d) = .ok (false, d) := (rfl)
@[simp] theorem gIx_lst {xs : List D} {i : Int} : gIx (.lst xs) (.int i) = ixO (atI xs i) := (rfl)
@[simp] theorem gIx_tup {xs : List D} {i : Int} : gIx (.tup xs) (.int i) = ixO (atI xs i) := (rfl)
@[simp] theorem itemsOf_lst {xs : List D} : itemsOf (.lst xs) = .ok xs := (rfl)
@[simp] theorem itemsOf_tup {xs : List D} : itemsOf (.tup xs) = .ok xs := (rfl)
@[simp] theorem itemsOf_scr {xs : List Int} : itemsOf (.scr xs) = .ok (xs.map D.int) := (rfl)
@[simp] theorem iSeq_ap {m : Env → RD} {env : Env} : iSeq m env = (m env).bind fun x => itemsOf x.2 := (rfl)
def rangeD1 (d : D) : Rs (List D) := match d with
  | .int n => if -(2 ^ 62) ≤ n ∧ n < 2 ^ 62 then .ok (rangeI 0 n.toNat) else .no
  | _ => .no
@[simp] theorem rangeD1_int {n : Int} : rangeD1 (.int n) = if -(2 ^ 62) ≤ n ∧ n < 2 ^ 62 then .ok (rangeI 0 n.toNat) else .no := (rfl)
@[simp] theorem iRange1_ap {m : Env → RD} {env : Env} : iRange1 m env = (m env).bind fun x => rangeD1 x.2 := (rfl)
def rangeD2 (d e : D) : Rs (List D) := match d, e with
  | .int i, .int j => if -(2 ^ 62) ≤ i ∧ i < 2 ^ 62 ∧ -(2 ^ 62) ≤ j ∧ j < 2 ^ 62 then .ok (rangeI i (j - i).toNat) else .no
  | _, _ => .no
@[simp] theorem rangeD2_int {i j : Int} : rangeD2 (.int i) (.int j) = if -(2 ^ 62) ≤ i ∧ i < 2 ^ 62 ∧ -(2 ^ 62) ≤ j ∧ j < 2 ^ 62 then .ok (rangeI i (j - i).toNat) else .no := (rfl)
@[simp] theorem iRange2_ap {m k : Env → RD} {env : Env} : iRange2 m k env = (m env).bind fun x => (k env).bind fun y => rangeD2 x.2 y.2 := (rfl)
@[simp] theorem iEnum_ap {m : Env → RD} {env : Env} : iEnum m env = (m env).bind fun x => (itemsOf x.2).bind fun ds => .ok (ds.mapIdx fun i d => .tup [.int (i : Int), d]) := (rfl)
@[simp] theorem iZip_ap {m k : Env → RD} {env : Env} : iZip m k env = (m env).bind fun x => (k env).bind fun y => (itemsOf x.2).bind fun ds => (itemsOf y.2).bind fun es => .ok (List.zipWith (fun d e => .tup [d, e]) ds es) := (rfl)
def Rs.forK (r : Rs (List D)) (R : List Nat) (tg : D → Env → Option Env) (body : Env → Out) (env : Env) : Out := match r with
  | .ok ds => mLoop tg body ds (frz R env)
  | .ex n a => .ex n a
  | .no => .no
@[simp] theorem forK_ok {ds : List D} {R : List Nat} {tg : D → Env → Option Env} {body : Env → Out} {env : Env} : (Rs.ok ds).forK R tg body env = mLoop tg body ds (frz R env) := (rfl)
@[simp] theorem forK_ite {p : Prop} [Decidable p] {x y : Rs (List D)} {R : List Nat} {tg : D → Env → Option Env} {body : Env → Out} {env : Env} : (if p then x else y).forK R tg body env = if p then x.forK R tg body env else y.forK R tg body env := by split <;> rfl
@[simp] theorem mFor_ap {R : List Nat} {it : Env → Rs (List D)} {tg : D → Env → Option Env} {body : Env → Out} {env : Env} : mFor R it tg body env = (it env).forK R tg body env := (rfl)
def appK (r : RD) (i : Nat) (o : Option (Option (Bool × D))) (env : Env) : Out := match o with
  | some (some (true, .lst ds)) => mOf r fun fr d => if ds.length < sizeLine then (if lf d = true then .nx (env.set i (some (true, .lst (ds ++ [d])))) else if fr = true then .nx (env.set i (some (true, .lst (ds ++ [d])))) else .no) else .no
  | _ => .no
@[simp] theorem appK_lst {r : RD} {i : Nat} {ds : List D} {env : Env} : appK r i (some (some (true, .lst ds))) env = mOf r fun fr d => if ds.length < sizeLine then (if lf d = true then .nx (env.set i (some (true, .lst (ds ++ [d])))) else if fr = true then .nx (env.set i (some (true, .lst (ds ++ [d])))) else .no) else .no := (rfl)
@[simp] theorem mApp_ap {i : Nat} {m : Env → RD} {env : Env} : mApp i m env = appK (m env) i env[i]? env := by
  unfold mApp appK; split <;> simp_all
def augK (r : RD) (i : Nat) (o : Option (Option (Bool × D))) (env : Env) : Out := match o with
  | some (some (_, .int a)) => mOf r fun _ d => match d with
    | .int b => .nx (env.set i (some (false, .int (a + b))))
    | _ => .no
  | some (some (_, .str a)) => mOf r fun _ d => match d with
    | .str b => if a.length + b.length ≤ sizeLine then .nx (env.set i (some (false, .str (a ++ b)))) else .no
    | _ => .no
  | some (some (true, .lst ds)) => mOf r fun _ d => match d with
    | .lst es => if lfL es = true ∧ ds.length + es.length ≤ sizeLine then .nx (env.set i (some (true, .lst (ds ++ es)))) else .no
    | _ => .no
  | _ => .no
@[simp] theorem augK_int {i : Nat} {fr b : Bool} {x y : Int} {env : Env} : augK (.ok (fr, .int y)) i (some (some (b, .int x))) env = .nx (env.set i (some (false, .int (x + y)))) := (rfl)
@[simp] theorem augK_str {i : Nat} {fr b : Bool} {x y : Str} {env : Env} : augK (.ok (fr, .str y)) i (some (some (b, .str x))) env = if x.length + y.length ≤ sizeLine then .nx (env.set i (some (false, .str (x ++ y)))) else .no := (rfl)
@[simp] theorem augK_lst {i : Nat} {fr : Bool} {ds es : List D} {env : Env} : augK (.ok (fr, .lst es)) i (some (some (true, .lst ds))) env = if lfL es = true ∧ ds.length + es.length ≤ sizeLine then .nx (env.set i (some (true, .lst (ds ++ es)))) else .no := (rfl)
@[simp] theorem augK_ite {p : Prop} [Decidable p] {x y : RD} {i : Nat} {o : Option (Option (Bool × D))} {env : Env} : augK (if p then x else y) i o env = if p then augK x i o env else augK y i o env := by split <;> rfl
@[simp] theorem mAug_ap {i : Nat} {m : Env → RD} {env : Env} : mAug i m env = augK (m env) i env[i]? env := by
  unfold mAug augK; rfl
def setPopK (j i : Nat) (o : Option (Option (Bool × D))) (env : Env) : Out := match o with
  | some (some (true, .lst ds)) => if lfL ds = true then (match ds.getLast? with
    | some d => .nx ((env.set i (some (true, .lst ds.dropLast))).set j (some (false, d)))
    | none => .no) else .no
  | _ => .no
@[simp] theorem setPopK_lst {j i : Nat} {ds : List D} {d : D} {env : Env} : setPopK j i (some (some (true, .lst (ds ++ [d])))) env = if lfL (ds ++ [d]) = true then .nx ((env.set i (some (true, .lst ds))).set j (some (false, d))) else .no := by simp [setPopK]
@[simp] theorem mSetPop_ap {j i : Nat} {env : Env} : mSetPop j i env = setPopK j i env[i]? env := (rfl)
def popK (i : Nat) (o : Option (Option (Bool × D))) (env : Env) : Out := match o with
  | some (some (true, .lst ds)) => if lfL ds = true then (match ds.getLast? with
    | some d => .nx (env.set i (some (true, .lst ds.dropLast)))
    | none => .no) else .no
  | _ => .no
@[simp] theorem popK_lst {i : Nat} {ds : List D} {d : D} {env : Env} : popK i (some (some (true, .lst (ds ++ [d])))) env = if lfL (ds ++ [d]) = true then .nx (env.set i (some (true, .lst ds))) else .no := by simp [popK]
@[simp] theorem mPop_ap {i : Nat} {env : Env} : mPop i env = popK i env[i]? env := (rfl)
@[simp] theorem eChain_ap {g g2 : D → D → RD} {a b c : Env → RD} {env : Env} : eChain g g2 a b c env = (a env).bind fun x => (b env).bind fun y => (g x.2 y.2).bind fun u => (tB u.2).bind fun k => if k = true then (c env).bind fun z => g2 y.2 z.2 else .ok (false, .bl false) := by
  unfold eChain; rfl

theorem kitB_NoneType_int : kitB "NoneType" "int" = some false := by decide +kernel
@[simp] theorem isi_NoneType_int : fIsi "int" .non = .ok (false, .bl false) := by simp only [fIsi, tyOf, kitB_NoneType_int]; rfl
theorem kitB_bool_int : kitB "bool" "int" = some true := by decide +kernel
@[simp] theorem isi_bool_int {b : Bool} : fIsi "int" (.bl b) = .ok (false, .bl true) := by simp only [fIsi, tyOf, kitB_bool_int]; rfl
theorem kitB_int_int : kitB "int" "int" = some true := by decide +kernel
@[simp] theorem isi_int_int {b : Int} : fIsi "int" (.int b) = .ok (false, .bl true) := by simp only [fIsi, tyOf, kitB_int_int]; rfl
theorem kitB_str_int : kitB "str" "int" = some false := by decide +kernel
@[simp] theorem isi_str_int {b : Str} : fIsi "int" (.str b) = .ok (false, .bl false) := by simp only [fIsi, tyOf, kitB_str_int]; rfl
theorem kitB_tuple_int : kitB "tuple" "int" = some false := by decide +kernel
@[simp] theorem isi_tuple_int {b : List D} : fIsi "int" (.tup b) = .ok (false, .bl false) := by simp only [fIsi, tyOf, kitB_tuple_int]; rfl
theorem kitB_list_int : kitB "list" "int" = some false := by decide +kernel
@[simp] theorem isi_list_int {b : List D} : fIsi "int" (.lst b) = .ok (false, .bl false) := by simp only [fIsi, tyOf, kitB_list_int]; rfl
theorem kitB_dict_int : kitB "dict" "int" = some false := by decide +kernel
@[simp] theorem isi_dict_int {b : List (Key × D)} : fIsi "int" (.dct b) = .ok (false, .bl false) := by simp only [fIsi, tyOf, kitB_dict_int]; rfl
theorem kitB_NoneType_bool : kitB "NoneType" "bool" = some false := by decide +kernel
@[simp] theorem isi_NoneType_bool : fIsi "bool" .non = .ok (false, .bl false) := by simp only [fIsi, tyOf, kitB_NoneType_bool]; rfl
theorem kitB_bool_bool : kitB "bool" "bool" = some true := by decide +kernel
@[simp] theorem isi_bool_bool {b : Bool} : fIsi "bool" (.bl b) = .ok (false, .bl true) := by simp only [fIsi, tyOf, kitB_bool_bool]; rfl
theorem kitB_int_bool : kitB "int" "bool" = some false := by decide +kernel
@[simp] theorem isi_int_bool {b : Int} : fIsi "bool" (.int b) = .ok (false, .bl false) := by simp only [fIsi, tyOf, kitB_int_bool]; rfl
theorem kitB_str_bool : kitB "str" "bool" = some false := by decide +kernel
@[simp] theorem isi_str_bool {b : Str} : fIsi "bool" (.str b) = .ok (false, .bl false) := by simp only [fIsi, tyOf, kitB_str_bool]; rfl
theorem kitB_tuple_bool : kitB "tuple" "bool" = some false := by decide +kernel
@[simp] theorem isi_tuple_bool {b : List D} : fIsi "bool" (.tup b) = .ok (false, .bl false) := by simp only [fIsi, tyOf, kitB_tuple_bool]; rfl
theorem kitB_list_bool : kitB "list" "bool" = some false := by decide +kernel
@[simp] theorem isi_list_bool {b : List D} : fIsi "bool" (.lst b) = .ok (false, .bl false) := by simp only [fIsi, tyOf, kitB_list_bool]; rfl
theorem kitB_dict_bool : kitB "dict" "bool" = some false := by decide +kernel
@[simp] theorem isi_dict_bool {b : List (Key × D)} : fIsi "bool" (.dct b) = .ok (false, .bl false) := by simp only [fIsi, tyOf, kitB_dict_bool]; rfl
theorem kitB_NoneType_str : kitB "NoneType" "str" = some false := by decide +kernel
@[simp] theorem isi_NoneType_str : fIsi "str" .non = .ok (false, .bl false) := by simp only [fIsi, tyOf, kitB_NoneType_str]; rfl
theorem kitB_bool_str : kitB "bool" "str" = some false := by decide +kernel
@[simp] theorem isi_bool_str {b : Bool} : fIsi "str" (.bl b) = .ok (false, .bl false) := by simp only [fIsi, tyOf, kitB_bool_str]; rfl
theorem kitB_int_str : kitB "int" "str" = some false := by decide +kernel
@[simp] theorem isi_int_str {b : Int} : fIsi "str" (.int b) = .ok (false, .bl false) := by simp only [fIsi, tyOf, kitB_int_str]; rfl
theorem kitB_str_str : kitB "str" "str" = some true := by decide +kernel
@[simp] theorem isi_str_str {b : Str} : fIsi "str" (.str b) = .ok (false, .bl true) := by simp only [fIsi, tyOf, kitB_str_str]; rfl
theorem kitB_tuple_str : kitB "tuple" "str" = some false := by decide +kernel
@[simp] theorem isi_tuple_str {b : List D} : fIsi "str" (.tup b) = .ok (false, .bl false) := by simp only [fIsi, tyOf, kitB_tuple_str]; rfl
theorem kitB_list_str : kitB "list" "str" = some false := by decide +kernel
@[simp] theorem isi_list_str {b : List D} : fIsi "str" (.lst b) = .ok (false, .bl false) := by simp only [fIsi, tyOf, kitB_list_str]; rfl
theorem kitB_dict_str : kitB "dict" "str" = some false := by decide +kernel
@[simp] theorem isi_dict_str {b : List (Key × D)} : fIsi "str" (.dct b) = .ok (false, .bl false) := by simp only [fIsi, tyOf, kitB_dict_str]; rfl
theorem kitB_NoneType_tuple : kitB "NoneType" "tuple" = some false := by decide +kernel
@[simp] theorem isi_NoneType_tuple : fIsi "tuple" .non = .ok (false, .bl false) := by simp only [fIsi, tyOf, kitB_NoneType_tuple]; rfl
theorem kitB_bool_tuple : kitB "bool" "tuple" = some false := by decide +kernel
@[simp] theorem isi_bool_tuple {b : Bool} : fIsi "tuple" (.bl b) = .ok (false, .bl false) := by simp only [fIsi, tyOf, kitB_bool_tuple]; rfl
theorem kitB_int_tuple : kitB "int" "tuple" = some false := by decide +kernel
@[simp] theorem isi_int_tuple {b : Int} : fIsi "tuple" (.int b) = .ok (false, .bl false) := by simp only [fIsi, tyOf, kitB_int_tuple]; rfl
theorem kitB_str_tuple : kitB "str" "tuple" = some false := by decide +kernel
@[simp] theorem isi_str_tuple {b : Str} : fIsi "tuple" (.str b) = .ok (false, .bl false) := by simp only [fIsi, tyOf, kitB_str_tuple]; rfl
theorem kitB_tuple_tuple : kitB "tuple" "tuple" = some true := by decide +kernel
@[simp] theorem isi_tuple_tuple {b : List D} : fIsi "tuple" (.tup b) = .ok (false, .bl true) := by simp only [fIsi, tyOf, kitB_tuple_tuple]; rfl
theorem kitB_list_tuple : kitB "list" "tuple" = some false := by decide +kernel
@[simp] theorem isi_list_tuple {b : List D} : fIsi "tuple" (.lst b) = .ok (false, .bl false) := by simp only [fIsi, tyOf, kitB_list_tuple]; rfl
theorem kitB_dict_tuple : kitB "dict" "tuple" = some false := by decide +kernel
@[simp] theorem isi_dict_tuple {b : List (Key × D)} : fIsi "tuple" (.dct b) = .ok (false, .bl false) := by simp only [fIsi, tyOf, kitB_dict_tuple]; rfl
theorem kitB_NoneType_list : kitB "NoneType" "list" = some false := by decide +kernel
@[simp] theorem isi_NoneType_list : fIsi "list" .non = .ok (false, .bl false) := by simp only [fIsi, tyOf, kitB_NoneType_list]; rfl
theorem kitB_bool_list : kitB "bool" "list" = some false := by decide +kernel
@[simp] theorem isi_bool_list {b : Bool} : fIsi "list" (.bl b) = .ok (false, .bl false) := by simp only [fIsi, tyOf, kitB_bool_list]; rfl
theorem kitB_int_list : kitB "int" "list" = some false := by decide +kernel
@[simp] theorem isi_int_list {b : Int} : fIsi "list" (.int b) = .ok (false, .bl false) := by simp only [fIsi, tyOf, kitB_int_list]; rfl
theorem kitB_str_list : kitB "str" "list" = some false := by decide +kernel
@[simp] theorem isi_str_list {b : Str} : fIsi "list" (.str b) = .ok (false, .bl false) := by simp only [fIsi, tyOf, kitB_str_list]; rfl
theorem kitB_tuple_list : kitB "tuple" "list" = some false := by decide +kernel
@[simp] theorem isi_tuple_list {b : List D} : fIsi "list" (.tup b) = .ok (false, .bl false) := by simp only [fIsi, tyOf, kitB_tuple_list]; rfl
theorem kitB_list_list : kitB "list" "list" = some true := by decide +kernel
@[simp] theorem isi_list_list {b : List D} : fIsi "list" (.lst b) = .ok (false, .bl true) := by simp only [fIsi, tyOf, kitB_list_list]; rfl
theorem kitB_dict_list : kitB "dict" "list" = some false := by decide +kernel
@[simp] theorem isi_dict_list {b : List (Key × D)} : fIsi "list" (.dct b) = .ok (false, .bl false) := by simp only [fIsi, tyOf, kitB_dict_list]; rfl
theorem kitB_NoneType_dict : kitB "NoneType" "dict" = some false := by decide +kernel
@[simp] theorem isi_NoneType_dict : fIsi "dict" .non = .ok (false, .bl false) := by simp only [fIsi, tyOf, kitB_NoneType_dict]; rfl
theorem kitB_bool_dict : kitB "bool" "dict" = some false := by decide +kernel
@[simp] theorem isi_bool_dict {b : Bool} : fIsi "dict" (.bl b) = .ok (false, .bl false) := by simp only [fIsi, tyOf, kitB_bool_dict]; rfl
theorem kitB_int_dict : kitB "int" "dict" = some false := by decide +kernel
@[simp] theorem isi_int_dict {b : Int} : fIsi "dict" (.int b) = .ok (false, .bl false) := by simp only [fIsi, tyOf, kitB_int_dict]; rfl
theorem kitB_str_dict : kitB "str" "dict" = some false := by decide +kernel
@[simp] theorem isi_str_dict {b : Str} : fIsi "dict" (.str b) = .ok (false, .bl false) := by simp only [fIsi, tyOf, kitB_str_dict]; rfl
theorem kitB_tuple_dict : kitB "tuple" "dict" = some false := by decide +kernel
@[simp] theorem isi_tuple_dict {b : List D} : fIsi "dict" (.tup b) = .ok (false, .bl false) := by simp only [fIsi, tyOf, kitB_tuple_dict]; rfl
theorem kitB_list_dict : kitB "list" "dict" = some false := by decide +kernel
@[simp] theorem isi_list_dict {b : List D} : fIsi "dict" (.lst b) = .ok (false, .bl false) := by simp only [fIsi, tyOf, kitB_list_dict]; rfl
theorem kitB_dict_dict : kitB "dict" "dict" = some true := by decide +kernel
@[simp] theorem isi_dict_dict {b : List (Key × D)} : fIsi "dict" (.dct b) = .ok (false, .bl true) := by simp only [fIsi, tyOf, kitB_dict_dict]; rfl
theorem loop_ind {tg : D → Env → Option Env} {body : Env → Out} {β : Type} {dec : β → D} (I : List β → Env → Prop) (P : Out → Prop) (h0 : ∀ env, I [] env → P (.nx env))
    (h1 : ∀ x xs env, I (x :: xs) env → ∃ e1, tg (dec x) env = some e1 ∧ match body e1 with
      | .nx e => I xs e
      | .ct e => I xs e
      | .bk e => P (.nx e)
      | o => P o) : ∀ xs env, I xs env → P (mLoop tg body (xs.map dec) env)
  | [], env, h => h0 env h
  | x :: xs, env, h => by
    obtain ⟨e1, h2, h3⟩ := h1 x xs env h
    show P (mLoop tg body (dec x :: xs.map dec) env)
    unfold mLoop
    rw [h2]
    simp only
    cases q : body e1 with
    | nx e => rw [q] at h3; exact loop_ind I P h0 h1 xs e h3
    | ct e => rw [q] at h3; exact loop_ind I P h0 h1 xs e h3
    | bk e => rw [q] at h3; exact h3
    | rt fr d => rw [q] at h3; exact h3
    | ex n a => rw [q] at h3; exact h3
    | no => rw [q] at h3; exact h3
@[simp] theorem mLoop_nil {tg : D → Env → Option Env} {body : Env → Out} {env : Env} : mLoop tg body [] env = .nx env := (rfl)
def Out.loopK (o : Out) (k : Env → Out) : Out := match o with
  | .nx e => k e
  | .ct e => k e
  | .bk e => .nx e
  | o => o
@[simp] theorem loopK_nx {k : Env → Out} {e : Env} : (Out.nx e).loopK k = k e := (rfl)
@[simp] theorem loopK_ct {k : Env → Out} {e : Env} : (Out.ct e).loopK k = k e := (rfl)
@[simp] theorem loopK_bk {k : Env → Out} {e : Env} : (Out.bk e).loopK k = .nx e := (rfl)
@[simp] theorem loopK_rt {k : Env → Out} {fr : Bool} {d : D} : (Out.rt fr d).loopK k = .rt fr d := (rfl)
@[simp] theorem loopK_ex {k : Env → Out} {n : Str} {d : Option D} : (Out.ex n d).loopK k = .ex n d := (rfl)
@[simp] theorem loopK_no {k : Env → Out} : (Out.no).loopK k = .no := (rfl)
@[simp] theorem loopK_ite {p : Prop} [Decidable p] {x y : Out} {k : Env → Out} : (if p then x else y).loopK k = if p then x.loopK k else y.loopK k := by split <;> rfl
theorem mLoop_cons {tg : D → Env → Option Env} {body : Env → Out} {d : D} {ds : List D} {env e : Env} (h : tg d env = some e) : mLoop tg body (d :: ds) env = (body e).loopK (mLoop tg body ds) := by
  rw [mLoop, h]; simp only; cases body e <;> rfl
def fnO (o : Out) : RD := match o with
  | .rt fr d => .ok (fr, d)
  | .nx _ => .ok (false, .non)
  | .ex n a => .ex n a
  | _ => .no
@[simp] theorem fnO_rt {fr : Bool} {d : D} : fnO (.rt fr d) = .ok (fr, d) := (rfl)
@[simp] theorem fnO_nx {e : Env} : fnO (.nx e) = .ok (false, .non) := (rfl)
@[simp] theorem fnO_ex {n : Str} {d : Option D} : fnO (.ex n d) = .ex n d := (rfl)
@[simp] theorem fnO_ite {p : Prop} [Decidable p] {x y : Out} : fnO (if p then x else y) = if p then fnO x else fnO y := by split <;> rfl
theorem mFn_1 {N : Nat} {m : Env → Out} {a : D} : mFn 1 (N + 1) m [a] = fnO (m (some (false, a) :: List.replicate N none)) := (rfl)
theorem mFn_2 {N : Nat} {m : Env → Out} {a b : D} : mFn 2 (N + 2) m [a, b] = fnO (m (some (false, a) :: some (false, b) :: List.replicate N none)) := (rfl)
theorem mFn_3 {N : Nat} {m : Env → Out} {a b c : D} : mFn 3 (N + 3) m [a, b, c] = fnO (m (some (false, a) :: some (false, b) :: some (false, c) :: List.replicate N none)) := (rfl)
theorem mFn_4 {N : Nat} {m : Env → Out} {a b c d : D} : mFn 4 (N + 4) m [a, b, c, d] = fnO (m (some (false, a) :: some (false, b) :: some (false, c) :: some (false, d) :: List.replicate N none)) := (rfl)
theorem mFn_5 {N : Nat} {m : Env → Out} {a b c d e : D} : mFn 5 (N + 5) m [a, b, c, d, e] = fnO (m (some (false, a) :: some (false, b) :: some (false, c) :: some (false, d) :: some (false, e) :: List.replicate N none)) := (rfl)
end S

/-! reading the pure functions: indices, equality of lists of numbers, enumerate -/
namespace S
open PySem PySem.Spec PyProof.Rows L2
def ixI (o : Option Int) : RD := match o with
  | some n => .ok (false, .int n)
  | none => .no
@[simp] theorem ixI_some {n : Int} : ixI (some n) = .ok (false, .int n) := (rfl)
@[simp] theorem gIx_scr {ns : List Int} {i : Int} : gIx (.scr ns) (.int i) = ixI (atI ns i) := (rfl)
@[simp] theorem atI_nat {α : Type} {xs : List α} {k : Nat} : atI xs (k : Int) = xs[k]? := by
  unfold atI ixN
  rw [if_pos (by omega)]
  split
  · simp
  · rename_i h; rw [List.getElem?_eq_none (by omega)]; rfl
@[simp] theorem atI_lit {α : Type} {xs : List α} {k : Nat} : atI xs (no_index (@OfNat.ofNat Int k instOfNat)) = xs[k]? := atI_nat (k := k)
theorem atI_get {α : Type} {xs : List α} {i : Int} (h0 : 0 ≤ i) : atI xs i = xs[i.toNat]? := by
  have := atI_nat (xs := xs) (k := i.toNat)
  rwa [Int.toNat_of_nonneg h0] at this
theorem lg {n m : Nat} (h : n < 2 ^ m) (hm : 0 < m := by decide) : n.log2 < m := by
  by_cases z : n = 0
  · subst z; simpa using hm
  · exact (Nat.log2_lt z).mpr h
theorem lg2 {a b : Nat} (ha : a < 2 ^ 400) (hb : b < 2 ^ 400) : a.log2 + b.log2 < 1000000 := by
  have h1 := lg ha (by decide)
  have h2 := lg hb (by decide)
  omega
theorem plainL_ints {ns : List Int} : plainL (ns.map D.int) = true := by induction ns with
  | nil => rfl
  | cons n ns ih => simpa [plainL, plain] using ih
theorem pyL_ints {ns : List Int} : pyL (ns.map D.int) = ns.map PyData.int := by induction ns with
  | nil => rfl
  | cons n ns ih => simpa [pyL, py] using ih
theorem canLay_ints {ns : List Int} : PyData.canLayAll0 (ns.map PyData.int) = true := by induction ns with
  | nil => rfl
  | cons n ns ih => simpa [PyData.canLayAll0, PyData.canLay0] using ih
theorem depth_ints {ns : List Int} : PyData.depthAll (ns.map PyData.int) ≤ 1 := by induction ns with
  | nil => simp [PyData.depthAll]
  | cons n ns ih => simp [PyData.depthAll, PyData.depth]; omega
@[simp] theorem okEq_ilst {ns : List Int} : okEq (.lst (ns.map D.int)) = true := by
  have := depth_ints (ns := ns)
  simp [okEq, plain, py, SeqAt.shaped, PyData.canLay0, PyData.depth, plainL_ints, pyL_ints, canLay_ints]; omega
@[simp] theorem okEq_itup {ns : List Int} : okEq (.tup (ns.map D.int)) = true := by
  have := depth_ints (ns := ns)
  simp [okEq, plain, py, SeqAt.shaped, PyData.canLay0, PyData.depth, plainL_ints, pyL_ints, canLay_ints]; omega
theorem eqvAll_ints : ∀ {ns ms : List Int}, PyData.eqvAll (ns.map PyData.int) (ms.map PyData.int) = decide (ns = ms)
  | [], [] => rfl
  | [], _ :: _ => rfl
  | _ :: _, [] => rfl
  | n :: ns, m :: ms => by
    rw [List.map_cons, List.map_cons, PyData.eqvAll, eqvAll_ints]
    simp only [PyData.eqv]
    by_cases h : n = m <;> simp [h]
@[simp] theorem eqv_ilst {ns ms : List Int} : eqv (.lst (ns.map D.int)) (.lst (ms.map D.int)) = decide (ns = ms) := by
  simp only [eqv, py, pyL_ints, PyData.eqv, eqvAll_ints]
@[simp] theorem eqv_itup {ns ms : List Int} : eqv (.tup (ns.map D.int)) (.tup (ms.map D.int)) = decide (ns = ms) := by
  simp only [eqv, py, pyL_ints, PyData.eqv, eqvAll_ints]
@[simp] theorem gEq_ilst {ns ms : List Int} : gEq (.lst (ns.map D.int)) (.lst (ms.map D.int)) = .ok (false, .bl (decide (ns = ms))) := by rw [gEq_ok (by simp) (by simp), eqv_ilst]
@[simp] theorem gNe_ilst {ns ms : List Int} : gNe (.lst (ns.map D.int)) (.lst (ms.map D.int)) = .ok (false, .bl (!decide (ns = ms))) := by rw [gNe_ok (by simp) (by simp), eqv_ilst]
@[simp] theorem gNe_ilst0 {ns : List Int} : gNe (.lst (ns.map D.int)) (.lst []) = .ok (false, .bl (!decide (ns = []))) := gNe_ilst (ms := [])
@[simp] theorem gEq_ilst0 {ns : List Int} : gEq (.lst (ns.map D.int)) (.lst []) = .ok (false, .bl (decide (ns = []))) := gEq_ilst (ms := [])
@[simp] theorem gEq_itup {ns ms : List Int} : gEq (.tup (ns.map D.int)) (.tup (ms.map D.int)) = .ok (false, .bl (decide (ns = ms))) := by rw [gEq_ok (by simp) (by simp), eqv_itup]
@[simp] theorem gNe_itup {ns ms : List Int} : gNe (.tup (ns.map D.int)) (.tup (ms.map D.int)) = .ok (false, .bl (!decide (ns = ms))) := by rw [gNe_ok (by simp) (by simp), eqv_itup]
/-- enumerate -/
def enumD {β : Type} (dec : β → D) : Nat → List β → List D
  | _, [] => []
  | i, x :: xs => .tup [.int (i : Int), dec x] :: enumD dec (i + 1) xs
theorem enumD_map {β : Type} {dec : β → D} : ∀ (xs : List β) (i : Nat), (xs.map dec).mapIdx (fun j d => D.tup [.int ((i + j : Nat) : Int), d]) = enumD dec i xs
  | [], _ => rfl
  | x :: xs, i => by
    rw [List.map_cons, List.mapIdx_cons, enumD, ← enumD_map xs (i + 1)]
    simp [Nat.add_comm, Nat.add_left_comm]
theorem mapIdx_enum {β : Type} {dec : β → D} {xs : List β} : (xs.map dec).mapIdx (fun j d => D.tup [.int (j : Int), d]) = enumD dec 0 xs := by
  simpa using enumD_map (dec := dec) xs 0
theorem loop_enum {tg : D → Env → Option Env} {body : Env → Out} {β : Type} {dec : β → D} (I : Nat → List β → Env → Prop) (P : Out → Prop) (h0 : ∀ i env, I i [] env → P (.nx env))
    (h1 : ∀ i x xs env, I i (x :: xs) env → ∃ e1, tg (.tup [.int (i : Int), dec x]) env = some e1 ∧ match body e1 with
      | .nx e => I (i + 1) xs e
      | .ct e => I (i + 1) xs e
      | .bk e => P (.nx e)
      | o => P o) : ∀ xs i env, I i xs env → P (mLoop tg body (enumD dec i xs) env)
  | [], i, env, h => h0 i env h
  | x :: xs, i, env, h => by
    obtain ⟨e1, h2, h3⟩ := h1 i x xs env h
    rw [enumD, mLoop_cons h2]
    cases q : body e1 with
    | nx e => rw [q] at h3; exact loop_enum I P h0 h1 xs (i + 1) e h3
    | ct e => rw [q] at h3; exact loop_enum I P h0 h1 xs (i + 1) e h3
    | bk e => rw [q] at h3; exact h3
    | rt fr d => rw [q] at h3; exact h3
    | ex n a => rw [q] at h3; exact h3
    | no => rw [q] at h3; exact h3
end S

/-! what an outcome is to be -/
namespace S
open PySem PySem.Spec PyProof.Rows L2
def Never (_ : Env) : Prop := False
def NoX (_ : Str) (_ : Option D) : Prop := False
/-- N: goes on, C: continue, B: break, R: returns, X: raises -/
def WpD (o : Out) (N C B : Env → Prop) (R : Bool → D → Prop) (X : Str → Option D → Prop) : Prop := match o with
  | .nx e => N e
  | .ct e => C e
  | .bk e => B e
  | .rt fr d => R fr d
  | .ex n a => X n a
  | .no => False
/-- a lid on it: nothing below is run by a look at the goal -/
structure Wp (o : Out) (N C B : Env → Prop) (R : Bool → D → Prop) (X : Str → Option D → Prop) : Prop where
  h : WpD o N C B R X
def RetD (r : RD) (Q : Bool → D → Prop) (X : Str → Option D → Prop) : Prop := match r with
  | .ok (fr, d) => Q fr d
  | .ex n a => X n a
  | .no => False
structure RetX (r : RD) (Q : Bool → D → Prop) (X : Str → Option D → Prop) : Prop where
  h : RetD r Q X
section
variable {N C B : Env → Prop} {R Q : Bool → D → Prop} {X : Str → Option D → Prop} {e : Env} {b : Env → Out}
@[simp] theorem wp_nx : Wp (.nx e) N C B R X = N e := propext ⟨fun h => h.h, fun h => ⟨h⟩⟩
@[simp] theorem wp_ct : Wp (.ct e) N C B R X = C e := propext ⟨fun h => h.h, fun h => ⟨h⟩⟩
@[simp] theorem wp_bk : Wp (.bk e) N C B R X = B e := propext ⟨fun h => h.h, fun h => ⟨h⟩⟩
@[simp] theorem wp_rt {fr : Bool} {d : D} : Wp (.rt fr d) N C B R X = R fr d := propext ⟨fun h => h.h, fun h => ⟨h⟩⟩
@[simp] theorem wp_ex {n : Str} {d : Option D} : Wp (.ex n d) N C B R X = X n d := propext ⟨fun h => h.h, fun h => ⟨h⟩⟩
@[simp] theorem wp_no : Wp .no N C B R X = False := propext ⟨fun h => h.h, fun h => ⟨h⟩⟩
@[simp] theorem ret_ok {fr : Bool} {d : D} : RetX (.ok (fr, d)) R X = R fr d := propext ⟨fun h => h.h, fun h => ⟨h⟩⟩
@[simp] theorem ret_ex {n : Str} {d : Option D} : RetX (.ex n d) R X = X n d := propext ⟨fun h => h.h, fun h => ⟨h⟩⟩
@[simp] theorem ret_no : RetX .no R X = False := propext ⟨fun h => h.h, fun h => ⟨h⟩⟩
theorem wp_seq {o : Out} (h : Wp o (fun e => Wp (b e) N C B R X) C B R X) : Wp (o.andThen b) N C B R X := by cases o <;> first | exact h.h | exact ⟨h.h⟩
theorem wp_if {p : Prop} [Decidable p] {x y : Out} (h1 : p → Wp x N C B R X) (h2 : ¬ p → Wp y N C B R X) : Wp (if p then x else y) N C B R X := by split <;> simp_all
theorem RetX.ok {r : RD} (h : RetX r Q NoX) : ∃ fr d, r = .ok (fr, d) ∧ Q fr d := by
  cases r with
  | ok x => exact ⟨x.1, x.2, rfl, h.h⟩
  | ex n a => exact h.h.elim
  | no => exact h.h.elim
theorem ret_fn {o : Out} (h : ∀ R' X', (∀ fr d, Q fr d → R' fr d) → (∀ n a, X n a → X' n a) → Wp o (fun _ => R' false .non) Never Never R' X') : RetX (fnO o) Q X := by
  replace h := h Q X (fun _ _ z => z) (fun _ _ z => z)
  cases o with
  | nx e => exact ⟨h.h⟩
  | rt fr d => exact ⟨h.h⟩
  | ex n a => exact ⟨h.h⟩
  | _ => exact h.h.elim
/-- tests joined -/
@[simp] theorem ite_okF {p : Prop} [Decidable p] {x : Bool} : (if p then Rs.ok x else Rs.ok false) = Rs.ok (decide p && x) := by by_cases h : p <;> simp [h]
@[simp] theorem ite_okT {p : Prop} [Decidable p] {x : Bool} : (if p then Rs.ok true else Rs.ok x) = Rs.ok (decide p || x) := by by_cases h : p <;> simp [h]
@[simp] theorem ite_okFv {p : Prop} [Decidable p] {x : Bool} : (if p then (Rs.ok (false, D.bl x) : RD) else Rs.ok (false, D.bl false)) = Rs.ok (false, .bl (decide p && x)) := by by_cases h : p <;> simp [h]
@[simp] theorem ite_okTv {p : Prop} [Decidable p] {x : Bool} : (if p then (Rs.ok (false, D.bl true) : RD) else Rs.ok (false, D.bl x)) = Rs.ok (false, .bl (decide p || x)) := by by_cases h : p <;> simp [h]
@[simp] theorem ret_ite {p : Prop} [Decidable p] {x y : RD} : RetX (if p then x else y) Q X = if p then RetX x Q X else RetX y Q X := by split <;> rfl
@[simp] theorem wp_ite {p : Prop} [Decidable p] {x y : Out} : Wp (if p then x else y) N C B R X = if p then Wp x N C B R X else Wp y N C B R X := by split <;> rfl
/-- walks -/
theorem wp_loop {tg : D → Env → Option Env} {body : Env → Out} {β : Type} {dec : β → D} (I : List β → Env → Prop) {xs : List β} {env : Env} (h0 : I xs env)
    (h1 : ∀ N' B' R' X', ∀ x xs env, (∀ e, I xs e → N' e) → (∀ e, Wp (b e) N C B R X → B' e) → (∀ fr d, R fr d → R' fr d) → (∀ n a, X n a → X' n a) → I (x :: xs) env → ∃ e1, tg (dec x) env = some e1 ∧ Wp (body e1) N' N' B' R' X')
    (h2 : ∀ env, I [] env → Wp (b env) N C B R X) : Wp ((mLoop tg body (xs.map dec) env).andThen b) N C B R X := by
  induction xs generalizing env with
  | nil => exact h2 env h0
  | cons x xs ih =>
    obtain ⟨e1, q1, q2⟩ := h1 _ _ _ _ x xs env (fun _ z => z) (fun _ z => z) (fun _ _ z => z) (fun _ _ z => z) h0
    rw [List.map_cons, mLoop_cons q1]
    cases q : body e1 with
    | nx e => rw [q] at q2; exact ih q2.h
    | ct e => rw [q] at q2; exact ih q2.h
    | bk e => rw [q] at q2; exact q2.h
    | rt fr d => rw [q] at q2; exact ⟨q2.h⟩
    | ex n a => rw [q] at q2; exact ⟨q2.h⟩
    | no => rw [q] at q2; exact q2.h.elim
theorem wp_loopD {tg : D → Env → Option Env} {body : Env → Out} (I : List D → Env → Prop) {xs : List D} {env : Env} (h0 : I xs env)
    (h1 : ∀ N' B' R' X', ∀ x xs env, (∀ e, I xs e → N' e) → (∀ e, Wp (b e) N C B R X → B' e) → (∀ fr d, R fr d → R' fr d) → (∀ n a, X n a → X' n a) → I (x :: xs) env → ∃ e1, tg x env = some e1 ∧ Wp (body e1) N' N' B' R' X')
    (h2 : ∀ env, I [] env → Wp (b env) N C B R X) : Wp ((mLoop tg body xs env).andThen b) N C B R X := by
  have := wp_loop (dec := id) I h0 h1 h2
  rwa [List.map_id] at this
theorem wp_enum {tg : D → Env → Option Env} {body : Env → Out} {β : Type} {dec : β → D} (I : Nat → List β → Env → Prop) {xs : List β} {i : Nat} {env : Env} (h0 : I i xs env)
    (h1 : ∀ N' B' R' X', ∀ i x xs env, (∀ e, I (i + 1) xs e → N' e) → (∀ e, Wp (b e) N C B R X → B' e) → (∀ fr d, R fr d → R' fr d) → (∀ n a, X n a → X' n a) → I i (x :: xs) env → ∃ e1, tg (.tup [.int (i : Int), dec x]) env = some e1 ∧ Wp (body e1) N' N' B' R' X')
    (h2 : ∀ i env, I i [] env → Wp (b env) N C B R X) : Wp ((mLoop tg body (enumD dec i xs) env).andThen b) N C B R X := by
  induction xs generalizing env i with
  | nil => exact h2 i env h0
  | cons x xs ih =>
    obtain ⟨e1, q1, q2⟩ := h1 _ _ _ _ i x xs env (fun _ z => z) (fun _ z => z) (fun _ _ z => z) (fun _ _ z => z) h0
    rw [enumD, mLoop_cons q1]
    cases q : body e1 with
    | nx e => rw [q] at q2; exact ih q2.h
    | ct e => rw [q] at q2; exact ih q2.h
    | bk e => rw [q] at q2; exact q2.h
    | rt fr d => rw [q] at q2; exact ⟨q2.h⟩
    | ex n a => rw [q] at q2; exact ⟨q2.h⟩
    | no => rw [q] at q2; exact q2.h.elim
theorem rangeI_succ {lo : Int} {n : Nat} : rangeI lo (n + 1) = .int lo :: rangeI (lo + 1) n := by
  unfold rangeI
  rw [List.range_succ_eq_map]
  simp [Function.comp_def]
  intro a _
  omega
theorem wp_range {tg : D → Env → Option Env} {body : Env → Out} (I : Int → Nat → Env → Prop) {lo : Int} {n : Nat} {env : Env} (h0 : I lo n env)
    (h1 : ∀ N' B' R' X', ∀ i n env, (∀ e, I (i + 1) n e → N' e) → (∀ e, Wp (b e) N C B R X → B' e) → (∀ fr d, R fr d → R' fr d) → (∀ n a, X n a → X' n a) → I i (n + 1) env → ∃ e1, tg (.int i) env = some e1 ∧ Wp (body e1) N' N' B' R' X')
    (h2 : ∀ i env, I i 0 env → Wp (b env) N C B R X) : Wp ((mLoop tg body (rangeI lo n) env).andThen b) N C B R X := by
  induction n generalizing env lo with
  | zero => exact h2 lo env h0
  | succ n ih =>
    obtain ⟨e1, q1, q2⟩ := h1 _ _ _ _ lo n env (fun _ z => z) (fun _ z => z) (fun _ _ z => z) (fun _ _ z => z) h0
    rw [rangeI_succ, mLoop_cons q1]
    cases q : body e1 with
    | nx e => rw [q] at q2; exact ih q2.h
    | ct e => rw [q] at q2; exact ih q2.h
    | bk e => rw [q] at q2; exact q2.h
    | rt fr d => rw [q] at q2; exact ⟨q2.h⟩
    | ex n a => rw [q] at q2; exact ⟨q2.h⟩
    | no => rw [q] at q2; exact q2.h.elim
/-- a walk that is the last statement -/
theorem wp_last {o : Out} (h : Wp (o.andThen mNil) N C B R X) : Wp o N C B R X := by cases o <;> exact ⟨h.h⟩
end
end S

/-! lists and tuples of one kind -/
namespace S
open PySem PySem.Spec PyProof.Rows L2
def Ls {α : Type} (dec : α → D) (xs : List α) : D := .lst (xs.map dec)
def Tp {α : Type} (dec : α → D) (xs : List α) : D := .tup (xs.map dec)
abbrev IL (ns : List Int) : D := Ls D.int ns
abbrev IT (ns : List Int) : D := Tp D.int ns
section
variable {α : Type} {dec : α → D} {xs ys : List α} {x y : α} {R : List Nat} {i j : Nat} {fr b : Bool} {env : Env} {ns ms : List Int} {n m : Int}
@[simp] theorem lf_Ls : lf (Ls dec xs) = false := (rfl)
@[simp] theorem lf_IT : lf (IT ns) = true := lfL_ints
theorem lf_Tp (h : ∀ x, lf (dec x) = true) : lf (Tp dec xs) = true := lfL_map h
@[simp] theorem lfL_IT {ts : List (List Int)} : lfL (ts.map (Tp D.int)) = true := lfL_map fun _ => lf_IT
@[simp] theorem lf_TT {ts : List (List Int)} : lf (Tp (Tp D.int) ts) = true := lfL_IT
@[simp] theorem bindS_LsT : bindS i R true (Ls dec xs) env = env.set i (some (true, Ls dec xs)) := (rfl)
@[simp] theorem bindS_LsF : bindS i R false (Ls dec xs) env = (frz R env).set i (some (false, Ls dec xs)) := (rfl)
@[simp] theorem bindS_IT : bindS i R fr (IT ns) env = env.set i (some (false, IT ns)) := bindS_lf lf_IT
@[simp] theorem fLen_Ls : fLen [Ls dec xs] = .ok (false, .int xs.length) := by simp [Ls, fLen_lst]
@[simp] theorem fLen_Tp : fLen [Tp dec xs] = .ok (false, .int xs.length) := by simp [Tp, fLen_tup]
@[simp] theorem itemsOf_Ls : itemsOf (Ls dec xs) = .ok (xs.map dec) := (rfl)
@[simp] theorem itemsOf_Tp : itemsOf (Tp dec xs) = .ok (xs.map dec) := (rfl)
def ixD {α : Type} (dec : α → D) (o : Option α) : RD := match o with
  | some x => .ok (false, dec x)
  | none => .no
@[simp] theorem ixD_some : ixD dec (some x) = .ok (false, dec x) := (rfl)
theorem atI_map {i : Int} : atI (xs.map dec) i = (atI xs i).map dec := by
  unfold atI
  rw [List.length_map]
  cases ixN xs.length i with
  | none => rfl
  | some j => simp
@[simp] theorem gIx_Ls {i : Int} : gIx (Ls dec xs) (.int i) = ixD dec (atI xs i) := by
  show ixO (atI (xs.map dec) i) = _
  rw [atI_map]
  cases atI xs i <;> rfl
@[simp] theorem gIx_Tp {i : Int} : gIx (Tp dec xs) (.int i) = ixD dec (atI xs i) := by
  show ixO (atI (xs.map dec) i) = _
  rw [atI_map]
  cases atI xs i <;> rfl
def cutL {α : Type} (xs : List α) (lo hi : Option Int) : List α := (xs.drop (HT.sIx xs.length 0 lo)).take (HT.sIx xs.length xs.length hi - HT.sIx xs.length 0 lo)
theorem cutD_map {lo hi : Option Int} : cutD (xs.map dec) lo hi = (cutL xs lo hi).map dec := by
  simp [cutD, cutL, List.map_take, List.map_drop]
@[simp] theorem gSl_Ls {lo hi : Option Int} : gSl lo hi (Ls dec xs) = .ok (lfL ((cutL xs lo hi).map dec), Ls dec (cutL xs lo hi)) := by
  simp only [Ls, gSl_lst, cutD_map]
@[simp] theorem gSl_Tp {lo hi : Option Int} : gSl lo hi (Tp dec xs) = .ok (false, Tp dec (cutL xs lo hi)) := by
  simp only [Tp, gSl_tup, cutD_map]
@[simp] theorem cutL_hi {k : Nat} : cutL xs none (some (k : Int)) = xs.take k := by
  simp [cutL, HT.sIx_nat, HT.sIx_none]
@[simp] theorem cutL_lo {k : Nat} : cutL xs (some (k : Int)) none = xs.drop k := by
  simp only [cutL, HT.sIx_nat, HT.sIx_none]
  by_cases h : k ≤ xs.length
  · rw [Nat.min_eq_left h, List.take_of_length_le (by simp)]
  · rw [Nat.min_eq_right (by omega), List.drop_of_length_le (Nat.le_refl _), List.drop_of_length_le (by omega)]; simp
theorem cutL_both {k l : Nat} : cutL xs (some (k : Int)) (some (l : Int)) = (xs.drop k).take (l - k) := by
  simp only [cutL, HT.sIx_nat]
  by_cases h : k ≤ xs.length
  · rw [Nat.min_eq_left h]
    by_cases h2 : l ≤ xs.length
    · rw [Nat.min_eq_left h2]
    · rw [show min l xs.length = xs.length from by omega, List.take_of_length_le (by simp), List.take_of_length_le (by simp; omega)]
  · rw [show min k xs.length = xs.length from by omega, List.drop_of_length_le (show xs.length ≤ k by omega)]; simp
@[simp] theorem cutL_hiL {k : Nat} : cutL xs none (some (no_index (@OfNat.ofNat Int k instOfNat))) = xs.take k := cutL_hi
@[simp] theorem cutL_loL {k : Nat} : cutL xs (some (no_index (@OfNat.ofNat Int k instOfNat))) none = xs.drop k := cutL_lo
theorem cutL_len {lo hi : Option Int} : (cutL xs lo hi).length ≤ xs.length := by
  simp only [cutL, List.length_take, List.length_drop]; omega
theorem cutL_mem {lo hi : Option Int} (h : x ∈ cutL xs lo hi) : x ∈ xs := List.mem_of_mem_drop (List.mem_of_mem_take h)
@[simp] theorem gAdd_Ls : gAdd (Ls dec xs) (Ls dec ys) = if xs.length + ys.length ≤ sizeLine then .ok (lfL ((xs ++ ys).map dec), Ls dec (xs ++ ys)) else .no := by
  simp only [Ls, gAdd_lst, List.length_map, List.map_append]
@[simp] theorem gAdd_Tp : gAdd (Tp dec xs) (Tp dec ys) = if xs.length + ys.length ≤ sizeLine then .ok (false, Tp dec (xs ++ ys)) else .no := by
  simp only [Tp, gAdd_tup, List.length_map, List.map_append]
@[simp] theorem fTuple_Ls : fTuple [Ls dec xs] = .ok (false, Tp dec xs) := (rfl)
@[simp] theorem fTuple_Tp : fTuple [Tp dec xs] = .ok (false, Tp dec xs) := (rfl)
@[simp] theorem fList_Ls : fList [Ls dec xs] = .ok (lfL (xs.map dec), Ls dec xs) := (rfl)
@[simp] theorem fList_Tp : fList [Tp dec xs] = .ok (lfL (xs.map dec), Ls dec xs) := (rfl)
@[simp] theorem okEq_IL : okEq (IL ns) = true := okEq_ilst
@[simp] theorem okEq_IT : okEq (IT ns) = true := okEq_itup
@[simp] theorem gEq_IL : gEq (IL ns) (IL ms) = .ok (false, .bl (decide (ns = ms))) := gEq_ilst
@[simp] theorem gNe_IL : gNe (IL ns) (IL ms) = .ok (false, .bl (!decide (ns = ms))) := gNe_ilst
@[simp] theorem gEq_IL0 : gEq (IL ns) (.lst []) = .ok (false, .bl (decide (ns = []))) := gEq_ilst (ms := [])
@[simp] theorem gNe_IL0 : gNe (IL ns) (.lst []) = .ok (false, .bl (!decide (ns = []))) := gNe_ilst (ms := [])
@[simp] theorem gEq_IT : gEq (IT ns) (IT ms) = .ok (false, .bl (decide (ns = ms))) := gEq_itup
@[simp] theorem gNe_IT : gNe (IT ns) (IT ms) = .ok (false, .bl (!decide (ns = ms))) := gNe_itup
@[simp] theorem gEq_IT0 : gEq (IT ns) (.tup []) = .ok (false, .bl (decide (ns = []))) := gEq_itup (ms := [])
@[simp] theorem gNe_IT0 : gNe (IT ns) (.tup []) = .ok (false, .bl (!decide (ns = []))) := gNe_itup (ms := [])
theorem flat_ints : ((ns.map D.int).all flat) = true := by simp [flat]
theorem isIn_ints : isIn (.int n) (ns.map D.int) = decide (n ∈ ns) := by
  induction ns with
  | nil => rfl
  | cons a ns ih =>
    simp only [isIn, List.map_cons, List.any_cons, eqv_int] at ih ⊢
    rw [ih]
    by_cases h : a = n
    · simp [h]
    · simp [h, Ne.symm h]
@[simp] theorem gIn_IL : gIn false (.int n) (IL ns) = .ok (false, .bl (decide (n ∈ ns))) := by
  show (if _ then _ else _) = _
  rw [if_pos ⟨rfl, flat_ints⟩, isIn_ints]; rfl
@[simp] theorem gIn_IT : gIn false (.int n) (IT ns) = .ok (false, .bl (decide (n ∈ ns))) := by
  show (if _ then _ else _) = _
  rw [if_pos ⟨rfl, flat_ints⟩, isIn_ints]; rfl
@[simp] theorem gNin_IL : gIn true (.int n) (IL ns) = .ok (false, .bl (!decide (n ∈ ns))) := by
  show (if _ then _ else _) = _
  rw [if_pos ⟨rfl, flat_ints⟩, isIn_ints]; rfl
@[simp] theorem gNin_IT : gIn true (.int n) (IT ns) = .ok (false, .bl (!decide (n ∈ ns))) := by
  show (if _ then _ else _) = _
  rw [if_pos ⟨rfl, flat_ints⟩, isIn_ints]; rfl
@[simp] theorem isi_Ls_int : fIsi "int" (Ls dec xs) = .ok (false, .bl false) := isi_list_int
@[simp] theorem isi_Ls_bool : fIsi "bool" (Ls dec xs) = .ok (false, .bl false) := isi_list_bool
@[simp] theorem isi_Ls_str : fIsi "str" (Ls dec xs) = .ok (false, .bl false) := isi_list_str
@[simp] theorem isi_Ls_tuple : fIsi "tuple" (Ls dec xs) = .ok (false, .bl false) := isi_list_tuple
@[simp] theorem isi_Ls_list : fIsi "list" (Ls dec xs) = .ok (false, .bl true) := isi_list_list
@[simp] theorem isi_Tp_int : fIsi "int" (Tp dec xs) = .ok (false, .bl false) := isi_tuple_int
@[simp] theorem isi_Tp_bool : fIsi "bool" (Tp dec xs) = .ok (false, .bl false) := isi_tuple_bool
@[simp] theorem isi_Tp_str : fIsi "str" (Tp dec xs) = .ok (false, .bl false) := isi_tuple_str
@[simp] theorem isi_Tp_tuple : fIsi "tuple" (Tp dec xs) = .ok (false, .bl true) := isi_tuple_tuple
@[simp] theorem isi_Tp_list : fIsi "list" (Tp dec xs) = .ok (false, .bl false) := isi_tuple_list
@[simp] theorem appK_IL : appK (.ok (fr, .int n)) i (some (some (true, IL ns))) env = if ns.length < sizeLine then .nx (env.set i (some (true, IL (ns ++ [n])))) else .no := by
  show appK (.ok (fr, .int n)) i (some (some (true, .lst (ns.map D.int)))) env = _
  simp [Ls]
@[simp] theorem appK_LT {ts : List (List Int)} {t : List Int} : appK (.ok (fr, IT t)) i (some (some (true, Ls (Tp D.int) ts))) env = if ts.length < sizeLine then .nx (env.set i (some (true, Ls (Tp D.int) (ts ++ [t])))) else .no := by
  show appK (.ok (fr, IT t)) i (some (some (true, .lst (ts.map (Tp D.int))))) env = _
  simp [Ls]
@[simp] theorem appK_ite {p : Prop} [Decidable p] {x y : RD} {o : Option (Option (Bool × D))} : appK (if p then x else y) i o env = if p then appK x i o env else appK y i o env := by split <;> rfl
@[simp] theorem augK_IL : augK (.ok (fr, IL ms)) i (some (some (true, IL ns))) env = if ns.length + ms.length ≤ sizeLine then .nx (env.set i (some (true, IL (ns ++ ms)))) else .no := by
  show augK (.ok (fr, .lst (ms.map D.int))) i (some (some (true, .lst (ns.map D.int)))) env = _
  simp [Ls]
@[simp] theorem setPopK_IL : setPopK j i (some (some (true, IL (ns ++ [n])))) env = .nx ((env.set i (some (true, IL ns))).set j (some (false, .int n))) := by
  show setPopK j i (some (some (true, .lst ((ns ++ [n]).map D.int)))) env = _
  simp [Ls]
@[simp] theorem popK_IL : popK i (some (some (true, IL (ns ++ [n])))) env = .nx (env.set i (some (true, IL ns))) := by
  show popK i (some (some (true, .lst ((ns ++ [n]).map D.int)))) env = _
  simp [Ls]
@[simp] theorem gMul_IL : gMul (IL ns) (.int n) = if ns.length * n.toNat ≤ sizeLine ∧ -(2 ^ 63) ≤ n ∧ n < 2 ^ 63 then .ok (true, IL (List.replicate n.toNat ns).flatten) else .no := by
  have e : (List.replicate n.toNat (ns.map D.int)).flatten = ((List.replicate n.toNat ns).flatten).map D.int := by simp [List.map_flatten]
  show gMul (.lst (ns.map D.int)) (.int n) = _
  simp only [gMul_lst, List.length_map, e, lfL_ints]; rfl
@[simp] theorem gMul_IT : gMul (IT ns) (.int n) = if ns.length * n.toNat ≤ sizeLine ∧ -(2 ^ 63) ≤ n ∧ n < 2 ^ 63 then .ok (false, IT (List.replicate n.toNat ns).flatten) else .no := by
  have e : (List.replicate n.toNat (ns.map D.int)).flatten = ((List.replicate n.toNat ns).flatten).map D.int := by simp [List.map_flatten]
  show gMul (.tup (ns.map D.int)) (.int n) = _
  simp only [gMul_tup, List.length_map, e]; rfl
@[simp] theorem rep1 {k : Nat} : (List.replicate k [n]).flatten = List.replicate k n := by
  induction k with
  | zero => rfl
  | succ k ih => simp [List.replicate_succ, ih]
@[simp] theorem gTup_Tp {k : Nat} {r : List D → Env → Option Env} : gTup k r (Tp dec xs) env = if xs.length = k then r (xs.map dec) env else none := by
  simp [Tp, gTup_ap]
@[simp] theorem tTru_Ls : tTru (Ls dec xs) = .ok (!xs.isEmpty) := by simp [Ls, tTru]
@[simp] theorem tTru_Tp : tTru (Tp dec xs) = .ok (!xs.isEmpty) := by simp [Tp, tTru]
@[simp] theorem lst_1 {a : Int} : D.lst [.int a] = IL [a] := (rfl)
@[simp] theorem lst_2 {a b : Int} : D.lst [.int a, .int b] = IL [a, b] := (rfl)
@[simp] theorem lst_3 {a b c : Int} : D.lst [.int a, .int b, .int c] = IL [a, b, c] := (rfl)
@[simp] theorem lst_4 {a b c d : Int} : D.lst [.int a, .int b, .int c, .int d] = IL [a, b, c, d] := (rfl)
@[simp] theorem tup_1 {a : Int} : D.tup [.int a] = IT [a] := (rfl)
@[simp] theorem tup_2 {a b : Int} : D.tup [.int a, .int b] = IT [a, b] := (rfl)
@[simp] theorem tup_3 {a b c : Int} : D.tup [.int a, .int b, .int c] = IT [a, b, c] := (rfl)
@[simp] theorem tup_4 {a b c d : Int} : D.tup [.int a, .int b, .int c, .int d] = IT [a, b, c, d] := (rfl)
@[simp] theorem lst_5 {a0 a1 a2 a3 a4 : Int} : D.lst [.int a0, .int a1, .int a2, .int a3, .int a4] = IL [a0, a1, a2, a3, a4] := (rfl)
@[simp] theorem tup_5 {a0 a1 a2 a3 a4 : Int} : D.tup [.int a0, .int a1, .int a2, .int a3, .int a4] = IT [a0, a1, a2, a3, a4] := (rfl)
@[simp] theorem lst_6 {a0 a1 a2 a3 a4 a5 : Int} : D.lst [.int a0, .int a1, .int a2, .int a3, .int a4, .int a5] = IL [a0, a1, a2, a3, a4, a5] := (rfl)
@[simp] theorem tup_6 {a0 a1 a2 a3 a4 a5 : Int} : D.tup [.int a0, .int a1, .int a2, .int a3, .int a4, .int a5] = IT [a0, a1, a2, a3, a4, a5] := (rfl)
@[simp] theorem lst_7 {a0 a1 a2 a3 a4 a5 a6 : Int} : D.lst [.int a0, .int a1, .int a2, .int a3, .int a4, .int a5, .int a6] = IL [a0, a1, a2, a3, a4, a5, a6] := (rfl)
@[simp] theorem tup_7 {a0 a1 a2 a3 a4 a5 a6 : Int} : D.tup [.int a0, .int a1, .int a2, .int a3, .int a4, .int a5, .int a6] = IT [a0, a1, a2, a3, a4, a5, a6] := (rfl)
@[simp] theorem lst_8 {a0 a1 a2 a3 a4 a5 a6 a7 : Int} : D.lst [.int a0, .int a1, .int a2, .int a3, .int a4, .int a5, .int a6, .int a7] = IL [a0, a1, a2, a3, a4, a5, a6, a7] := (rfl)
@[simp] theorem tup_8 {a0 a1 a2 a3 a4 a5 a6 a7 : Int} : D.tup [.int a0, .int a1, .int a2, .int a3, .int a4, .int a5, .int a6, .int a7] = IT [a0, a1, a2, a3, a4, a5, a6, a7] := (rfl)
@[simp] theorem lst_9 {a0 a1 a2 a3 a4 a5 a6 a7 a8 : Int} : D.lst [.int a0, .int a1, .int a2, .int a3, .int a4, .int a5, .int a6, .int a7, .int a8] = IL [a0, a1, a2, a3, a4, a5, a6, a7, a8] := (rfl)
@[simp] theorem tup_9 {a0 a1 a2 a3 a4 a5 a6 a7 a8 : Int} : D.tup [.int a0, .int a1, .int a2, .int a3, .int a4, .int a5, .int a6, .int a7, .int a8] = IT [a0, a1, a2, a3, a4, a5, a6, a7, a8] := (rfl)
@[simp] theorem lst_10 {a0 a1 a2 a3 a4 a5 a6 a7 a8 a9 : Int} : D.lst [.int a0, .int a1, .int a2, .int a3, .int a4, .int a5, .int a6, .int a7, .int a8, .int a9] = IL [a0, a1, a2, a3, a4, a5, a6, a7, a8, a9] := (rfl)
@[simp] theorem tup_10 {a0 a1 a2 a3 a4 a5 a6 a7 a8 a9 : Int} : D.tup [.int a0, .int a1, .int a2, .int a3, .int a4, .int a5, .int a6, .int a7, .int a8, .int a9] = IT [a0, a1, a2, a3, a4, a5, a6, a7, a8, a9] := (rfl)
@[simp] theorem lst_11 {a0 a1 a2 a3 a4 a5 a6 a7 a8 a9 a10 : Int} : D.lst [.int a0, .int a1, .int a2, .int a3, .int a4, .int a5, .int a6, .int a7, .int a8, .int a9, .int a10] = IL [a0, a1, a2, a3, a4, a5, a6, a7, a8, a9, a10] := (rfl)
@[simp] theorem tup_11 {a0 a1 a2 a3 a4 a5 a6 a7 a8 a9 a10 : Int} : D.tup [.int a0, .int a1, .int a2, .int a3, .int a4, .int a5, .int a6, .int a7, .int a8, .int a9, .int a10] = IT [a0, a1, a2, a3, a4, a5, a6, a7, a8, a9, a10] := (rfl)
@[simp] theorem lst_12 {a0 a1 a2 a3 a4 a5 a6 a7 a8 a9 a10 a11 : Int} : D.lst [.int a0, .int a1, .int a2, .int a3, .int a4, .int a5, .int a6, .int a7, .int a8, .int a9, .int a10, .int a11] = IL [a0, a1, a2, a3, a4, a5, a6, a7, a8, a9, a10, a11] := (rfl)
@[simp] theorem tup_12 {a0 a1 a2 a3 a4 a5 a6 a7 a8 a9 a10 a11 : Int} : D.tup [.int a0, .int a1, .int a2, .int a3, .int a4, .int a5, .int a6, .int a7, .int a8, .int a9, .int a10, .int a11] = IT [a0, a1, a2, a3, a4, a5, a6, a7, a8, a9, a10, a11] := (rfl)
end
end S

/-! comprehensions, join, mixed displays -/
namespace S
open PySem PySem.Spec PyProof.Rows L2
theorem compL_map {α : Type} {dec : α → D} {f : α → D} {tg : D → Env → Option Env} {tt : Env → Rs Bool} {el : Env → RD} {env : Env} : ∀ {xs : List α}
    (_ : ∀ x ∈ xs, ∃ e, tg (dec x) env = some e ∧ tt e = .ok true ∧ ∃ b, el e = .ok (b, f x) ∧ (b || lf (f x)) = true), compL tg tt el env (xs.map dec) = .ok (true, xs.map f)
  | [], _ => rfl
  | x :: xs, h => by
    obtain ⟨e, h1, h2, b, h3, h4⟩ := h x (by simp)
    rw [List.map_cons, compL, h1]
    simp only [h2, h3, compL_map (xs := xs) fun y m => h y (by simp [m]), h4, List.map_cons]; rfl
/-- b: whether all is fresh -/
theorem compL_mapB {α : Type} {dec : α → D} {f : α → D} {g : α → Bool} {tg : D → Env → Option Env} {tt : Env → Rs Bool} {el : Env → RD} {env : Env} : ∀ {xs : List α}
    (_ : ∀ x ∈ xs, ∃ e, tg (dec x) env = some e ∧ tt e = .ok true ∧ el e = .ok (g x, f x)), compL tg tt el env (xs.map dec) = .ok (xs.all fun x => g x || lf (f x), xs.map f)
  | [], _ => rfl
  | x :: xs, h => by
    obtain ⟨e, h1, h2, h3⟩ := h x (by simp)
    rw [List.map_cons, compL, h1]
    simp only [h2, h3, compL_mapB (xs := xs) fun y m => h y (by simp [m]), List.map_cons, List.all_cons]
theorem compL_filter {α : Type} {dec : α → D} {f : α → D} {p : α → Bool} {tg : D → Env → Option Env} {tt : Env → Rs Bool} {el : Env → RD} {env : Env} : ∀ {xs : List α}
    (_ : ∀ x ∈ xs, ∃ e, tg (dec x) env = some e ∧ tt e = .ok (p x) ∧ (p x = true → ∃ b, el e = .ok (b, f x) ∧ (b || lf (f x)) = true)), compL tg tt el env (xs.map dec) = .ok (true, (xs.filter p).map f)
  | [], _ => rfl
  | x :: xs, h => by
    obtain ⟨e, h1, h2, h3⟩ := h x (by simp)
    have ih := compL_filter (xs := xs) fun y m => h y (by simp [m])
    rw [List.map_cons, compL, h1]
    cases q : p x with
    | true =>
      obtain ⟨b, h4, h5⟩ := h3 q
      rw [q] at h2
      simp only [h2, h4, ih, h5, List.filter_cons, q, if_true, List.map_cons]; rfl
    | false =>
      rw [q] at h2
      simp only [h2, ih, List.filter_cons, q]; rfl
def Rs.compK (r : Rs (List D)) (Ri vs : List Nat) (tg : D → Env → Option Env) (tt : Env → Rs Bool) (el : Env → RD) (env : Env) : RD := match r with
  | .ok ds => match compL tg tt el (wipeE vs (frz Ri env)) ds with
    | .ok r => if r.2.length ≤ sizeLine then .ok (r.1, .lst r.2) else .no
    | _ => .no
  | .ex n a => .ex n a
  | .no => .no
def compR (r : Rs (Bool × List D)) : RD := match r with
  | .ok r => if r.2.length ≤ sizeLine then .ok (r.1, .lst r.2) else .no
  | _ => .no
@[simp] theorem compR_ok {b : Bool} {xs : List D} : compR (.ok (b, xs)) = if xs.length ≤ sizeLine then .ok (b, .lst xs) else .no := (rfl)
@[simp] theorem compK_ok {ds : List D} {Ri vs : List Nat} {tg : D → Env → Option Env} {tt : Env → Rs Bool} {el : Env → RD} {env : Env} : (Rs.ok ds).compK Ri vs tg tt el env = compR (compL tg tt el (wipeE vs (frz Ri env)) ds) := by
  unfold Rs.compK compR
  simp only
@[simp] theorem eComp_ap {Ri vs : List Nat} {it : Env → Rs (List D)} {tg : D → Env → Option Env} {tt : Env → Rs Bool} {el : Env → RD} {env : Env} : eComp Ri vs it tg tt el env = (it env).compK Ri vs tg tt el env := (rfl)
@[simp] theorem wipe_nil {env : Env} : wipeE [] env = env := (rfl)
@[simp] theorem wipe_cons {i : Nat} {vs : List Nat} {env : Env} : wipeE (i :: vs) env = (wipeE vs env).set i none := (rfl)
@[simp] theorem gAdd_TpT {α : Type} {dec : α → D} {xs : List α} {ys : List D} : gAdd (Tp dec xs) (.tup ys) = if xs.length + ys.length ≤ sizeLine then .ok (false, .tup (xs.map dec ++ ys)) else .no := by simp [Tp, gAdd_tup]
@[simp] theorem gAdd_TTp {α : Type} {dec : α → D} {xs : List α} {ys : List D} : gAdd (.tup ys) (Tp dec xs) = if ys.length + xs.length ≤ sizeLine then .ok (false, .tup (ys ++ xs.map dec)) else .no := by simp [Tp, gAdd_tup]
theorem atI_mem {α : Type} {xs : List α} {i : Int} (h0 : 0 ≤ i) (h1 : i < xs.length) : ∃ x, atI xs i = some x ∧ x ∈ xs := by
  rw [atI_get h0]
  have : i.toNat < xs.length := by omega
  exact ⟨xs[i.toNat], List.getElem?_eq_getElem this, List.getElem_mem this⟩
def joinK (x : D) (r : RD) : RD := match x with
  | .str _ => r.bind fun y => gJoin x y.2
  | _ => .no
@[simp] theorem joinK_str {a : Str} {fr : Bool} {d : D} : joinK (.str a) (.ok (fr, d)) = gJoin (.str a) d := (rfl)
@[simp] theorem eJoin_ap {a b : Env → RD} {env : Env} : eJoin a b env = (a env).bind fun x => joinK x.2 (b env) := by
  unfold eJoin joinK; cases a env <;> rfl
theorem strsOf_map {α : Type} {f : α → Str} : ∀ {xs : List α}, strsOf (xs.map fun x => .str (f x)) = some (xs.map f)
  | [] => rfl
  | x :: xs => by rw [List.map_cons, strsOf, strsOf_map]; rfl
theorem gJoin_map {α : Type} {f : α → Str} {xs : List α} {a : Str} : gJoin (.str a) (.lst (xs.map fun x => .str (f x))) = if ((xs.map f).map (·.length)).sum + (xs.map f).length * a.length ≤ 16777216 then .ok (false, .str (Txt.join a (xs.map f))) else .no := by
  simp only [gJoin, strsOf_map]
theorem sum_le {α : Type} {f : α → Nat} {k : Nat} : ∀ {xs : List α}, (∀ x ∈ xs, f x ≤ k) → (xs.map f).sum ≤ xs.length * k
  | [], _ => by simp
  | x :: xs, h => by
    have h1 := h x (by simp)
    have h2 := sum_le (xs := xs) fun y m => h y (by simp [m])
    simp only [List.map_cons, List.sum_cons, List.length_cons, Nat.add_mul, Nat.one_mul]
    omega
end S

/-! reading: dicts, all, any, sum, sorted, several classes -/
namespace S
open PySem PySem.Spec PyProof.Rows L2
section
variable {α : Type} {dec : α → D} {xs : List α} {ns : List Int} {bs : List Bool} {env : Env} {i : Nat} {fr : Bool}
@[simp] theorem fListU_Ls : fListU [Ls dec xs] = .ok (lfL (xs.map dec), Ls dec xs) := (rfl)
@[simp] theorem fListU_Tp : fListU [Tp dec xs] = .ok (lfL (xs.map dec), Ls dec xs) := (rfl)
@[simp] theorem fListU_dct {kvs : List (Key × D)} : fListU [.dct kvs] = .ok (true, .lst (kvs.map fun p => kD p.1)) := (rfl)
@[simp] theorem eDct0_ap : eDct0 env = .ok (true, .dct []) := (rfl)
@[simp] theorem eIsiN_ap {Ts : List String} {m : Env → RD} : eIsiN Ts m env = (m env).bind fun x => fIsiN Ts x.2 := (rfl)
@[simp] theorem gIsB_bl {a b : Bool} : gIsB (.bl a) (.bl b) = .ok (false, .bl (decide (a = b))) := (rfl)
@[simp] theorem gIsNB_bl {a b : Bool} : gIsNB (.bl a) (.bl b) = .ok (false, .bl (!decide (a = b))) := (rfl)
theorem intsOf_map : ∀ {ns : List Int}, intsOf (ns.map D.int) = some ns
  | [] => rfl
  | n :: ns => by rw [List.map_cons, intsOf, intsOf_map]; rfl
theorem bolsOf_map : ∀ {ns : List Bool}, bolsOf (ns.map D.bl) = some ns
  | [] => rfl
  | n :: ns => by rw [List.map_cons, bolsOf, bolsOf_map]; rfl
@[simp] theorem fSorted_IL : fSorted [IL ns] = .ok (true, IL (sortI ns)) := by
  show (match intsOf (ns.map D.int) with | some ns => _ | none => _) = _
  rw [intsOf_map]; rfl
@[simp] theorem fSum_IL : fSum [IL ns] = .ok (false, .int ns.sum) := by
  show (match intsOf (ns.map D.int) with | some ns => _ | none => _) = _
  rw [intsOf_map]; rfl
@[simp] theorem fAll_BL : fAll [Ls D.bl bs] = .ok (false, .bl (bs.all id)) := by
  show (match bolsOf (bs.map D.bl) with | some ns => _ | none => _) = _
  rw [bolsOf_map]; rfl
@[simp] theorem fAny_BL : fAny [Ls D.bl bs] = .ok (false, .bl (bs.any id)) := by
  show (match bolsOf (bs.map D.bl) with | some ns => _ | none => _) = _
  rw [bolsOf_map]; rfl
end
end S

/-! loops without a way out, stores, downward ranges, sameness -/
namespace S
open PySem PySem.Spec PyProof.Rows L2
/-- the walk over ds goes on with e' -/
def Goes (tg : D → Env → Option Env) (body : Env → Out) (ds : List D) (e e' : Env) : Prop := ∀ rest, mLoop tg body (ds ++ rest) e = mLoop tg body rest e'
section
variable {tg : D → Env → Option Env} {body : Env → Out} {ds es : List D} {e e1 e2 : Env} {d : D}
theorem Goes.nil : Goes tg body [] e e := fun _ => rfl
theorem Goes.trans (a : Goes tg body ds e e1) (b : Goes tg body es e1 e2) : Goes tg body (ds ++ es) e e2 := fun rest => by
  rw [List.append_assoc, a, b]
theorem Goes.one (h : tg d e = some e1) (h2 : body e1 = .nx e2) : Goes tg body [d] e e2 := fun rest => by
  rw [List.singleton_append, mLoop_cons h, h2]; rfl
theorem Goes.cons {e3 : Env} (h : tg d e = some e1) (h2 : body e1 = .nx e2) (r : Goes tg body ds e2 e3) : Goes tg body (d :: ds) e e3 := (Goes.one h h2).trans r
theorem Goes.done (h : Goes tg body ds e e1) : mLoop tg body ds e = .nx e1 := by
  have := h []
  rwa [List.append_nil] at this
end
theorem enumD_app {β : Type} {dec : β → D} : ∀ (xs ys : List β) (i : Nat), enumD dec i (xs ++ ys) = enumD dec i xs ++ enumD dec (i + xs.length) ys
  | [], ys, i => rfl
  | x :: xs, ys, i => by
    rw [List.cons_append, enumD, enumD, enumD_app xs ys, List.cons_append, List.length_cons, Nat.add_assoc, Nat.add_comm 1]
/-! stores -/
def stoI (i : Nat) (o : Option (List Int)) (env : Env) : Out := match o with
  | some ns => .nx (env.set i (some (true, IL ns)))
  | none => .no
@[simp] theorem stoI_some {i : Nat} {ns : List Int} {env : Env} : stoI i (some ns) env = .nx (env.set i (some (true, IL ns))) := (rfl)
/-- a list with another number at a place -/
def setI (ns : List Int) (k n : Int) : Option (List Int) := (ixN ns.length k).map fun p => ns.set p n
def stoK (i : Nat) (rk rv : RD) (o : Option (Option (Bool × D))) (env : Env) : Out := match o with
  | some (some (true, .dct kvs)) => mOf rv fun _ d => mOf rk fun _ k => match keyOf k with
    | some k => if lf d = true ∧ lfK kvs = true ∧ kvs.length < sizeLine then .nx (env.set i (some (true, .dct (putD kvs k d)))) else .no
    | none => .no
  | some (some (true, .lst ds)) => mOf rv fun _ d => mOf rk fun _ k => match k with
    | .int k => if lf d = true ∧ lfL ds = true then (match ixN ds.length k with
      | some p => .nx (env.set i (some (true, .lst (ds.set p d))))
      | none => .no) else .no
    | _ => .no
  | _ => .no
@[simp] theorem mStoreU_ap {i : Nat} {mi mv : Env → RD} {env : Env} : mStoreU i mi mv env = stoK i (mi env) (mv env) env[i]? env := by
  unfold mStoreU stoK
  split
  · rename_i h; rw [h] <;> rfl
  · rename_i h
    unfold mStore
    split
    · rename_i h2; rw [h2] <;> rfl
    · rename_i h2
      split
      · rename_i z; exact absurd z (h _)
      · rename_i z; exact absurd z (h2 _)
      · rfl
@[simp] theorem stoK_IL {i : Nat} {f g : Bool} {k n : Int} {ns : List Int} {env : Env} : stoK i (.ok (f, .int k)) (.ok (g, .int n)) (some (some (true, IL ns))) env = stoI i (setI ns k n) env := by
  show (if lf (.int n) = true ∧ lfL (ns.map D.int) = true then (match ixN (ns.map D.int).length k with
      | some p => Out.nx (env.set i (some (true, .lst ((ns.map D.int).set p (.int n)))))
      | none => .no) else .no) = _
  rw [if_pos ⟨rfl, lfL_ints⟩, List.length_map]
  unfold setI
  cases ixN ns.length k with
  | none => rfl
  | some p => simp [stoI, Ls, List.map_set]
theorem ixN_pos {n : Nat} {k : Int} (h0 : 0 ≤ k) (h1 : k < n) : ixN n k = some k.toNat := by
  unfold ixN
  rw [if_pos (by omega), if_pos (by omega)]
@[simp] theorem atI_nat1 {α : Type} {xs : List α} {k : Nat} : atI xs ((k : Int) + 1) = xs[k + 1]? := atI_nat (k := k + 1)
theorem atI_last {α : Type} {xs : List α} {x : α} : atI (xs ++ [x]) (-1) = some x := by
  unfold atI ixN
  rw [if_neg (by omega), if_pos (by simp; omega)]
  simp
  have : ((-1 : Int) + (xs.length + 1)).toNat = xs.length := by omega
  rw [this]; simp
theorem get_mid {α : Type} {A R : List α} {x : α} {k : Nat} (h : A.length = k) : (A ++ x :: R)[k]? = some x := by subst h; simp
theorem set_mid {α : Type} {R : List α} {x y : α} : ∀ {A : List α} {k : Nat}, A.length = k → (A ++ x :: R).set k y = A ++ y :: R
  | [], _, h => by subst h; rfl
  | a :: A, _, h => by
    subst h
    simp
theorem setI_mid {A R : List Int} {x y : Int} {k : Nat} (h : A.length = k) : setI (A ++ x :: R) (k : Int) y = some (A ++ y :: R) := by
  unfold setI
  rw [ixN_pos (by omega) (by simp; omega)]
  simp [set_mid h]
theorem setI_nat {ns : List Int} {n : Int} {k : Nat} (h : k < ns.length) : setI ns (k : Int) n = some (ns.set k n) := by
  unfold setI
  rw [ixN_pos (by omega) (by omega)]
  simp
/-! downward ranges -/
def rangeDK (x y : D) : Rs (List D) := match x, y with
  | .int i, .int j => if -(2 ^ 62) ≤ i ∧ i < 2 ^ 62 ∧ -(2 ^ 62) ≤ j ∧ j < 2 ^ 62 then .ok (rangeD i (i - j).toNat) else .no
  | _, _ => .no
@[simp] theorem rangeDK_int {i j : Int} : rangeDK (.int i) (.int j) = if -(2 ^ 62) ≤ i ∧ i < 2 ^ 62 ∧ -(2 ^ 62) ≤ j ∧ j < 2 ^ 62 then .ok (rangeD i (i - j).toNat) else .no := (rfl)
@[simp] theorem iRangeD_ap {m k : Env → RD} {env : Env} : iRangeD m k env = (m env).bind fun x => (k env).bind fun y => rangeDK x.2 y.2 := (rfl)
theorem rangeD_zero {hi : Int} : rangeD hi 0 = [] := rfl
theorem rangeD_succ {hi : Int} {n : Nat} : rangeD hi (n + 1) = .int hi :: rangeD (hi - 1) n := by
  unfold rangeD
  rw [List.range_succ_eq_map, List.map_cons, List.map_map]
  congr 1
  · simp
  · apply List.map_congr_left
    intro a _
    simp only [Function.comp_apply]
    congr 1
    omega
theorem rangeD_add : ∀ {m : Nat} {hi : Int} {n : Nat}, rangeD hi (m + n) = rangeD hi m ++ rangeD (hi - m) n
  | 0, hi, n => by simp [rangeD_zero]
  | m + 1, hi, n => by
    rw [show m + 1 + n = (m + n) + 1 by omega, rangeD_succ, rangeD_succ, rangeD_add, List.cons_append]
    congr 3; omega
theorem rangeI_zero {lo : Int} : rangeI lo 0 = [] := rfl
theorem rangeI_add : ∀ {m : Nat} {lo : Int} {n : Nat}, rangeI lo (m + n) = rangeI lo m ++ rangeI (lo + m) n
  | 0, lo, n => by simp [rangeI_zero]
  | m + 1, lo, n => by
    rw [show m + 1 + n = (m + n) + 1 by omega, rangeI_succ, rangeI_succ, rangeI_add, List.cons_append]
    congr 3; omega
/-! pairs -/
def P2 (p : Int × Int) : D := .tup [.int p.1, .int p.2]
@[simp] theorem zip_ints : ∀ {xs ys : List Int}, List.zipWith (fun d e => D.tup [d, e]) (xs.map D.int) (ys.map D.int) = (List.zip xs ys).map P2
  | [], _ => by simp
  | _ :: _, [] => by simp
  | x :: xs, y :: ys => by simp [zip_ints, P2]
@[simp] theorem zip_IT : ∀ {xs ys : List Int}, List.zipWith (fun a b => IT [a, b]) xs ys = (List.zip xs ys).map P2
  | [], _ => by simp
  | _ :: _, [] => by simp
  | x :: xs, y :: ys => by
    rw [List.zipWith_cons_cons, List.zip_cons_cons, List.map_cons, zip_IT]; rfl
@[simp] theorem bindS_dctT {i : Nat} {R : List Nat} {kvs : List (Key × D)} {env : Env} : bindS i R true (.dct kvs) env = env.set i (some (true, .dct kvs)) := (rfl)
@[simp] theorem fInt_bl {b : Bool} : fInt [.bl b] = .ok (false, .int (if b = true then 1 else 0)) := (rfl)
@[simp] theorem fInt_int {i : Int} : fInt [.int i] = .ok (false, .int i) := (rfl)
theorem okEq_str {a : Str} (h : PyData.strOk a = true) : okEq (.str a) = true := by simp [okEq, plain, py, SeqAt.shaped, PyData.canLay0, PyData.depth, h]
theorem eqv_str {a b : Str} : eqv (.str a) (.str b) = decide (a = b) := by
  simp only [eqv, py, PyData.eqv]
  by_cases h : a = b <;> simp [h]
theorem gEq_str {a b : Str} (ha : PyData.strOk a = true) (hb : PyData.strOk b = true) : gEq (.str a) (.str b) = .ok (false, .bl (decide (a = b))) := by rw [gEq_ok (okEq_str ha) (okEq_str hb), eqv_str]
theorem gNe_str {a b : Str} (ha : PyData.strOk a = true) (hb : PyData.strOk b = true) : gNe (.str a) (.str b) = .ok (false, .bl (!decide (a = b))) := by rw [gNe_ok (okEq_str ha) (okEq_str hb), eqv_str]
def howK (f : HowT) (r : RD) : RD := match r with
  | .ok _ => .ok (false, .str "told")
  | .ex n a => match f n a with
    | some d => .ok (false, d)
    | none => .no
  | .no => .no
@[simp] theorem howK_ok {f : HowT} {x : Bool × D} : howK f (.ok x) = .ok (false, .str "told") := (rfl)
def howO (o : Option D) : RD := match o with
  | some d => .ok (false, d)
  | none => .no
@[simp] theorem howO_some {d : D} : howO (some d) = .ok (false, d) := (rfl)
@[simp] theorem howK_ex {f : HowT} {n : Str} {a : Option D} : howK f (.ex n a) = howO (f n a) := (rfl)
@[simp] theorem howK_ite {f : HowT} {p : Prop} [Decidable p] {x y : RD} : howK f (if p then x else y) = if p then howK f x else howK f y := by split <;> rfl
@[simp] theorem eHow_ap {f : HowT} {m : Env → RD} {env : Env} : eHow f m env = howK f (m env) := by
  unfold eHow howK; rfl
def raiK (n : Str) (r : RD) : Out := match r with
  | .ok (_, d) => if atD d = true then .ex n (some d) else .no
  | .ex m a => .ex m a
  | .no => .no
@[simp] theorem mRaiseI_ap {n : Str} {m : Env → RD} {env : Env} : mRaiseI n m env = raiK n (m env) := by
  unfold mRaiseI raiK; rfl
@[simp] theorem raiK_int {n : Str} {fr : Bool} {i : Int} : raiK n (.ok (fr, .int i)) = .ex n (some (.int i)) := (rfl)
@[simp] theorem raiK_non {n : Str} {fr : Bool} : raiK n (.ok (fr, .non)) = .ex n (some .non) := (rfl)
@[simp] theorem fMaxL_IL {ns : List Int} : fMaxL [IL ns] = if 0 < ns.length then .ok (false, .int (maxI ns)) else .no := by
  show (match intsOf (ns.map D.int) with | some ns => _ | none => _) = _
  rw [intsOf_map]; rfl
@[simp] theorem fMaxL_IT {ns : List Int} : fMaxL [IT ns] = if 0 < ns.length then .ok (false, .int (maxI ns)) else .no := by
  show (match intsOf (ns.map D.int) with | some ns => _ | none => _) = _
  rw [intsOf_map]; rfl
/-! count, index -/
def lmK (g : D → D → RD) (x : D) (r : RD) : RD := match x with
  | .lst ds => r.bind fun y => g (.lst ds) y.2
  | _ => .no
@[simp] theorem lmK_lst {g : D → D → RD} {ds : List D} {r : RD} : lmK g (.lst ds) r = r.bind fun y => g (.lst ds) y.2 := (rfl)
@[simp] theorem eLm_ap {g : D → D → RD} {a b : Env → RD} {env : Env} : eLm g a b env = (a env).bind fun x => lmK g x.2 (b env) := by
  unfold eLm lmK
  congr 1
  funext x
  cases x.2 <;> rfl
def isK (a : Addr) (dx : Option Addr) (b : Bool) (o : Option (Option (Bool × D))) : RD := match o with
  | some (some (_, .raw a' dx' _)) => if a' = a ∧ dx' = dx then .ok (false, .bl b) else .no
  | _ => .no
@[simp] theorem isK_raw {a : Addr} {dx : Option Addr} {xv : V} {b f : Bool} : isK a dx b (some (some (f, .raw a dx xv))) = .ok (false, .bl b) := if_pos ⟨rfl, rfl⟩
@[simp] theorem eIsP_ap {i : Nat} {a : Addr} {dx : Option Addr} {b : Bool} {env : Env} : eIsP i a dx b env = isK a dx b env[i]? := (rfl)
def kndK (a : Addr) (dx : Option Addr) (d : D) (o : Option (Option (Bool × D))) : RD := match o with
  | some (some (_, .raw a' dx' _)) => if a' = a ∧ dx' = dx then .ok (false, d) else .no
  | _ => .no
@[simp] theorem kndK_raw {a : Addr} {dx : Option Addr} {xv : V} {d : D} {f : Bool} : kndK a dx d (some (some (f, .raw a dx xv))) = .ok (false, d) := if_pos ⟨rfl, rfl⟩
@[simp] theorem eKnd_ap {i : Nat} {a : Addr} {dx : Option Addr} {d : D} {env : Env} : eKnd i a dx d env = kndK a dx d env[i]? := (rfl)
theorem beqL {n m : Str} (h : n = m) : (n == m) = true := by simp [h]
/-! a list of one number over and over -/
theorem map_const {α : Type} {n : Int} {xs : List α} : D.lst (xs.map fun _ => D.int n) = IL (List.replicate xs.length n) := by
  have : ∀ xs : List α, xs.map (fun _ => D.int n) = List.replicate xs.length (D.int n) := fun xs => by
    induction xs with
    | nil => rfl
    | cons x xs ih => simp [List.replicate_succ, ih]
  simp [Ls, this]
/-! extend, dicts -/
def extK (r : RD) (i : Nat) (o : Option (Option (Bool × D))) (env : Env) : Out := match o with
  | some (some (true, .lst ds)) => mOf r fun _ d => match d with
    | .lst es => if lfL es = true ∧ ds.length + es.length ≤ sizeLine then .nx (env.set i (some (true, .lst (ds ++ es)))) else .no
    | .tup es => if lfL es = true ∧ ds.length + es.length ≤ sizeLine then .nx (env.set i (some (true, .lst (ds ++ es)))) else .no
    | _ => .no
  | _ => .no
@[simp] theorem mExt_ap {i : Nat} {m : Env → RD} {env : Env} : mExt i m env = extK (m env) i env[i]? env := by
  unfold mExt extK; rfl
@[simp] theorem extK_IL {i : Nat} {f : Bool} {ns ms : List Int} {env : Env} : extK (.ok (f, IL ms)) i (some (some (true, IL ns))) env = if ns.length + ms.length ≤ sizeLine then .nx (env.set i (some (true, IL (ns ++ ms)))) else .no := by
  show (if lfL (ms.map D.int) = true ∧ (ns.map D.int).length + (ms.map D.int).length ≤ sizeLine then Out.nx (env.set i (some (true, .lst (ns.map D.int ++ ms.map D.int)))) else .no) = _
  simp [Ls]
@[simp] theorem extK_IT {i : Nat} {f : Bool} {ns ms : List Int} {env : Env} : extK (.ok (f, IT ms)) i (some (some (true, IL ns))) env = if ns.length + ms.length ≤ sizeLine then .nx (env.set i (some (true, IL (ns ++ ms)))) else .no := by
  show (if lfL (ms.map D.int) = true ∧ (ns.map D.int).length + (ms.map D.int).length ≤ sizeLine then Out.nx (env.set i (some (true, .lst (ns.map D.int ++ ms.map D.int)))) else .no) = _
  simp [Ls]
/-! several classes -/
@[simp] theorem isiN_lt_non : fIsiN ["list", "tuple"] .non = .ok (false, .bl false) := by
  show (match anyB "NoneType" ["list", "tuple"] with | some b => b2 b | none => .no) = _
  rw [show anyB "NoneType" ["list", "tuple"] = some false by decide +kernel]
  rfl
@[simp] theorem isiN_lt_int {i : Int} : fIsiN ["list", "tuple"] (.int i) = .ok (false, .bl false) := by
  show (match anyB "int" ["list", "tuple"] with | some b => b2 b | none => .no) = _
  rw [show anyB "int" ["list", "tuple"] = some false by decide +kernel]
  rfl
@[simp] theorem isiN_lt_bl {i : Bool} : fIsiN ["list", "tuple"] (.bl i) = .ok (false, .bl false) := by
  show (match anyB "bool" ["list", "tuple"] with | some b => b2 b | none => .no) = _
  rw [show anyB "bool" ["list", "tuple"] = some false by decide +kernel]
  rfl
@[simp] theorem isiN_lt_str {i : Str} : fIsiN ["list", "tuple"] (.str i) = .ok (false, .bl false) := by
  show (match anyB "str" ["list", "tuple"] with | some b => b2 b | none => .no) = _
  rw [show anyB "str" ["list", "tuple"] = some false by decide +kernel]
  rfl
@[simp] theorem isiN_lt_lst {i : List D} : fIsiN ["list", "tuple"] (.lst i) = .ok (false, .bl true) := by
  show (match anyB "list" ["list", "tuple"] with | some b => b2 b | none => .no) = _
  rw [show anyB "list" ["list", "tuple"] = some true by decide +kernel]
  rfl
@[simp] theorem isiN_lt_tup {i : List D} : fIsiN ["list", "tuple"] (.tup i) = .ok (false, .bl true) := by
  show (match anyB "tuple" ["list", "tuple"] with | some b => b2 b | none => .no) = _
  rw [show anyB "tuple" ["list", "tuple"] = some true by decide +kernel]
  rfl
@[simp] theorem isiN_lt_Ls {α : Type} {dec : α → D} {i : List α} : fIsiN ["list", "tuple"] (Ls dec i) = .ok (false, .bl true) := isiN_lt_lst
@[simp] theorem isiN_lt_Tp {α : Type} {dec : α → D} {i : List α} : fIsiN ["list", "tuple"] (Tp dec i) = .ok (false, .bl true) := isiN_lt_tup
theorem zip_self {xs : List D} : List.zipWith (fun d e => D.tup [d, e]) xs xs = xs.map fun x => D.tup [x, x] := by
  induction xs with
  | nil => rfl
  | cons x xs ih => simp [ih]
theorem bolsOf_true {α : Type} : ∀ {xs : List α}, bolsOf (xs.map fun _ => D.bl true) = some (xs.map fun _ => true)
  | [] => rfl
  | x :: xs => by rw [List.map_cons, bolsOf, bolsOf_true]; rfl
theorem fAll_true {α : Type} {xs : List α} : fAll [.lst (xs.map fun _ => D.bl true)] = .ok (false, .bl true) := by
  show (match bolsOf (xs.map fun _ => D.bl true) with | some ns => _ | none => _) = _
  rw [bolsOf_true]
  simp
/-- plain data, k deep at most -/
def smD : Nat → D → Prop
  | 0, _ => False
  | k + 1, .lst xs => xs.length ≤ 16777216 ∧ ∀ x ∈ xs, smD k x
  | k + 1, .tup xs => xs.length ≤ 16777216 ∧ ∀ x ∈ xs, smD k x
  | _ + 1, .int _ => True
  | _ + 1, .bl _ => True
  | _ + 1, .non => True
  | _ + 1, _ => False
theorem smD_IL {k : Nat} {ns : List Int} (h : ns.length ≤ 16777216) : smD (k + 2) (IL ns) := ⟨by simpa using h, fun x m => by simp at m; obtain ⟨n, _, rfl⟩ := m; trivial⟩
theorem smD_IT {k : Nat} {ns : List Int} (h : ns.length ≤ 16777216) : smD (k + 2) (IT ns) := ⟨by simpa using h, fun x m => by simp at m; obtain ⟨n, _, rfl⟩ := m; trivial⟩
/-! one statement, then the rest -/
section
variable {N C B : Env → Prop} {R : Bool → D → Prop} {X : Str → Option D → Prop} {e : Env} {b : Env → Out} {a : Env → Out} {o : Out}
theorem wp_nx1 {e1 : Env} (h1 : a e = .nx e1) (h2 : Wp (b e1) N C B R X) : Wp (mSeq a b e) N C B R X := by
  rw [mSeq_ap, h1]; exact h2
theorem wp_mid (M : Env → Prop) (h1 : ∀ N' : Env → Prop, (∀ e, M e → N' e) → Wp (a e) N' C B R X) (h2 : ∀ e, M e → Wp (b e) N C B R X) : Wp (mSeq a b e) N C B R X := by
  replace h1 := h1 M (fun _ h => h)
  rw [mSeq_ap]
  cases h : a e with
  | nx e1 => rw [h] at h1; exact h2 e1 h1.h
  | _ => rw [h] at h1; exact ⟨h1.h⟩
theorem wp_then (h1 : Wp (a e) (fun e => Wp (b e) N C B R X) C B R X) : Wp (mSeq a b e) N C B R X := wp_mid _ (fun N' q => by
  cases h : a e <;> rw [h] at h1 <;> first | exact ⟨q _ h1.h⟩ | exact ⟨h1.h⟩) fun _ h => h
end
/-! while -/
theorem mWhile_t {c : Env → Rs Bool} {b : Env → Out} {e e1 : Env} (h : c e = .ok true) (h2 : b e = .nx e1) : mWhile c b e = mWhile c b e1 := by
  rw [mWhile_eq, h]; simp only [h2]
theorem mWhile_f {c : Env → Rs Bool} {b : Env → Out} {e : Env} (h : c e = .ok false) : mWhile c b e = .nx e := by
  rw [mWhile_eq, h]
end S

/-! reading: clear, reverse, upside down -/
namespace S
open PySem PySem.Spec PyProof.Rows L2
def clrK (i : Nat) (o : Option (Option (Bool × D))) (env : Env) : Out := match o with
  | some (some (true, .lst _)) => .nx (env.set i (some (true, .lst [])))
  | _ => .no
@[simp] theorem mClear_ap {i : Nat} {env : Env} : mClear i env = clrK i env[i]? env := (rfl)
@[simp] theorem clrK_Ls {α : Type} {dec : α → D} {i : Nat} {ns : List α} {env : Env} : clrK i (some (some (true, Ls dec ns))) env = .nx (env.set i (some (true, IL []))) := (rfl)
@[simp] theorem clrK_lst {i : Nat} {ns : List D} {env : Env} : clrK i (some (some (true, .lst ns))) env = .nx (env.set i (some (true, IL []))) := (rfl)
/-! x[i] += e; two at once; x[k].append(e); a new tuple told -/
def augI (f : Int → Int → Int) (i : Nat) (ns : List Int) (k b : Int) (env : Env) : Out := match ixN ns.length k, atI ns k with
  | some p, some a => .nx (env.set i (some (true, IL (ns.set p (f a b)))))
  | _, _ => .no
def augsK (f : Int → Int → Int) (i : Nat) (rk rv : RD) (o : Option (Option (Bool × D))) (env : Env) : Out := match o with
  | some (some (true, .lst ds)) => mOf rk fun _ q => match q with
    | .int k => match ixN ds.length k, atI ds k with
      | some p, some (.int a) => mOf rv fun _ d => match d with
        | .int b => if lfL ds = true then .nx (env.set i (some (true, .lst (ds.set p (.int (f a b)))))) else .no
        | _ => .no
      | _, _ => .no
    | _ => .no
  | _ => .no
@[simp] theorem mAugS_ap {f : Int → Int → Int} {i : Nat} {mk m : Env → RD} {env : Env} : mAugS f i mk m env = augsK f i (mk env) (m env) env[i]? env := (rfl)
@[simp] theorem augsK_IL {f : Int → Int → Int} {i : Nat} {x y : Bool} {k b : Int} {ns : List Int} {env : Env} : augsK f i (.ok (x, .int k)) (.ok (y, .int b)) (some (some (true, IL ns))) env = augI f i ns k b env := by
  show (match ixN (ns.map D.int).length k, atI (ns.map D.int) k with
      | some p, some (.int a) => (if lfL (ns.map D.int) = true then Out.nx (env.set i (some (true, .lst ((ns.map D.int).set p (.int (f a b)))))) else .no)
      | _, _ => .no) = _
  unfold augI
  rw [List.length_map, atI_map, lfL_ints]
  cases ixN ns.length k with
  | none => rfl
  | some p =>
    cases atI ns k with
    | none => rfl
    | some a => simp [Ls, List.map_set]
theorem augI_mid {f : Int → Int → Int} {i : Nat} {A R : List Int} {a b : Int} {k : Nat} {env : Env} (h : A.length = k) : augI f i (A ++ a :: R) (k : Int) b env = .nx (env.set i (some (true, IL (A ++ f a b :: R)))) := by
  unfold augI
  rw [ixN_pos (by omega) (by simp; omega), atI_nat, get_mid h, Int.toNat_natCast]
  show Out.nx (List.set env i (some (true, IL ((A ++ a :: R).set k (f a b))))) = _
  rw [set_mid h]
def parK (i j : Nat) (R : List Nat) (r : Rs (List D)) (env : Env) : Out := match r with
  | .ok ds => match ds with
    | [d1, d2] => if lf d1 = true ∧ lf d2 = true then .nx ((env.set i (some (false, d1))).set j (some (false, d2))) else .nx (((frz R env).set i (some (false, d1))).set j (some (false, d2)))
    | _ => .no
  | .ex n a => .ex n a
  | .no => .no
@[simp] theorem mPar_ap {i j : Nat} {R : List Nat} {mr : Env → Rs (List D)} {env : Env} : mPar i j R mr env = parK i j R (mr env) env := (rfl)
@[simp] theorem parK_ok {i j : Nat} {R : List Nat} {d1 d2 : D} {env : Env} : parK i j R (.ok [d1, d2]) env = if lf d1 = true ∧ lf d2 = true then .nx ((env.set i (some (false, d1))).set j (some (false, d2))) else .nx (((frz R env).set i (some (false, d1))).set j (some (false, d2))) := (rfl)
def apx2 (i k : Nat) (ds : List D) (o : Option D) (r : RD) (env : Env) : Out := match o with
  | some (.lst es) => mOf r fun _ d => if lf d = true ∧ es.length < sizeLine then .nx (env.set i (some (true, .tup (ds.set k (.lst (es ++ [d])))))) else .no
  | _ => .no
def apxK (i k : Nat) (o : Option (Option (Bool × D))) (r : RD) (env : Env) : Out := match o with
  | some (some (true, .tup ds)) => apx2 i k ds ds[k]? r env
  | _ => .no
@[simp] theorem mAppIx_ap {i k : Nat} {m : Env → RD} {env : Env} : mAppIx i k m env = apxK i k env[i]? (m env) env := (rfl)
@[simp] theorem fSum_scr {ns : List Int} : fSum [.scr ns] = .ok (false, .int ns.sum) := (rfl)
@[simp] theorem apxK_tup {i k : Nat} {ds : List D} {r : RD} {env : Env} : apxK i k (some (some (true, .tup ds))) r env = apx2 i k ds ds[k]? r env := (rfl)
@[simp] theorem apx2_lst {i k : Nat} {ds es : List D} {fr : Bool} {d : D} {env : Env} : apx2 i k ds (some (.lst es)) (.ok (fr, d)) env = if lf d = true ∧ es.length < sizeLine then .nx (env.set i (some (true, .tup (ds.set k (.lst (es ++ [d])))))) else .no := (rfl)
@[simp] theorem apx2_Ls {α : Type} {dec : α → D} {i k : Nat} {ds : List D} {es : List α} {fr : Bool} {d : D} {env : Env} : apx2 i k ds (some (Ls dec es)) (.ok (fr, d)) env = if lf d = true ∧ es.length < sizeLine then .nx (env.set i (some (true, .tup (ds.set k (.lst (es.map dec ++ [d])))))) else .no := by
  show (if lf d = true ∧ (es.map dec).length < sizeLine then _ else _) = _
  rw [List.length_map]
def retTK (r : Rs (List D)) (o : Out) : Out := match r with
  | .ok ds => if ds.length ≤ sizeLine then .rt true (.tup ds) else .no
  | .ex n a => .ex n a
  | .no => o
@[simp] theorem mRetT_ap {f : Env → Rs (List D)} {p : Env → RD} {env : Env} : mRetT f p env = retTK (f env) (mRet p env) := (rfl)
@[simp] theorem retTK_ok {ds : List D} {o : Out} : retTK (.ok ds) o = if ds.length ≤ sizeLine then .rt true (.tup ds) else .no := (rfl)
@[simp] theorem retTK_ex {n : Str} {a : Option D} {o : Out} : retTK (.ex n a) o = .ex n a := (rfl)
@[simp] theorem retTK_no {o : Out} : retTK .no o = o := (rfl)
def fVarK (o : Option (Option (Bool × D))) (r : Rs (List D)) : Rs (List D) := match o with
  | some (some (o, d)) => if o = true ∨ lf d = true then r.bind fun ds => .ok (d :: ds) else .no
  | _ => .no
@[simp] theorem fVar_ap {i : Nat} {r : Env → Rs (List D)} {env : Env} : fVar i r env = fVarK env[i]? (r env) := (rfl)
@[simp] theorem fVarK_own {d : D} {r : Rs (List D)} : fVarK (some (some (true, d))) r = r.bind fun ds => .ok (d :: ds) := by
  show (if true = true ∨ lf d = true then (r.bind fun ds => .ok (d :: ds)) else .no) = _
  simp
@[simp] theorem fVarK_sh {d : D} {r : Rs (List D)} : fVarK (some (some (false, d))) r = if lf d = true then r.bind fun ds => .ok (d :: ds) else .no := by
  show (if false = true ∨ lf d = true then (r.bind fun ds => .ok (d :: ds)) else .no) = _
  simp
@[simp] theorem fExp_ap {m : Env → RD} {r : Env → Rs (List D)} {env : Env} : fExp m r env = (m env).bind fun x => if x.1 = true ∨ lf x.2 = true then (r env).bind fun ds => .ok (x.2 :: ds) else .no := (rfl)
/-! == of one and the same -/
def okk : Nat → D → Bool
  | 0, _ => false
  | _ + 1, .non => true
  | _ + 1, .bl _ => true
  | _ + 1, .int _ => true
  | _ + 1, .str s => PyData.strOk s
  | k + 1, .tup xs => xs.all (okk k)
  | k + 1, .lst xs => xs.all (okk k)
  | _ + 1, _ => false
theorem okk_ok : ∀ (k : Nat) (d : D), okk k d = true → plain d = true ∧ PyData.canLay0 (py d) = true ∧ PyData.depth (py d) ≤ k ∧ PyData.eqv (py d) (py d) = true
  | k + 1, .non, _ => ⟨rfl, rfl, by simp [py, PyData.depth], rfl⟩
  | k + 1, .bl b, _ => ⟨rfl, rfl, by simp [py, PyData.depth], by simp [py, PyData.eqv]⟩
  | k + 1, .int i, _ => ⟨rfl, rfl, by simp [py, PyData.depth], by simp [py, PyData.eqv]⟩
  | k + 1, .str s, h => ⟨rfl, h, by simp [py, PyData.depth], by simp [py, PyData.eqv]⟩
  | k + 1, .tup xs, h => by
    have key : ∀ xs : List D, xs.all (okk k) = true → plainL xs = true ∧ PyData.canLayAll0 (pyL xs) = true ∧ PyData.depthAll (pyL xs) ≤ k ∧ PyData.eqvAll (pyL xs) (pyL xs) = true := by
      intro xs
      induction xs with
      | nil => exact fun _ => ⟨rfl, rfl, by simp [pyL, PyData.depthAll], rfl⟩
      | cons x xs ih =>
        intro h
        rw [List.all_cons, Bool.and_eq_true] at h
        obtain ⟨a1, a2, a3, a4⟩ := okk_ok k x h.1
        obtain ⟨b1, b2, b3, b4⟩ := ih h.2
        exact ⟨by simp [plainL, a1, b1], by simp [pyL, PyData.canLayAll0, a2, b2], by simp [pyL, PyData.depthAll]; omega, by simp [pyL, PyData.eqvAll, a4, b4]⟩
    obtain ⟨b1, b2, b3, b4⟩ := key xs h
    exact ⟨by simp [plain, b1], by simp [py, PyData.canLay0, b2], by simp [py, PyData.depth]; omega, by simp [py, PyData.eqv, b4]⟩
  | k + 1, .lst xs, h => by
    have key : ∀ xs : List D, xs.all (okk k) = true → plainL xs = true ∧ PyData.canLayAll0 (pyL xs) = true ∧ PyData.depthAll (pyL xs) ≤ k ∧ PyData.eqvAll (pyL xs) (pyL xs) = true := by
      intro xs
      induction xs with
      | nil => exact fun _ => ⟨rfl, rfl, by simp [pyL, PyData.depthAll], rfl⟩
      | cons x xs ih =>
        intro h
        rw [List.all_cons, Bool.and_eq_true] at h
        obtain ⟨a1, a2, a3, a4⟩ := okk_ok k x h.1
        obtain ⟨b1, b2, b3, b4⟩ := ih h.2
        exact ⟨by simp [plainL, a1, b1], by simp [pyL, PyData.canLayAll0, a2, b2], by simp [pyL, PyData.depthAll]; omega, by simp [pyL, PyData.eqvAll, a4, b4]⟩
    obtain ⟨b1, b2, b3, b4⟩ := key xs h
    exact ⟨by simp [plain, b1], by simp [py, PyData.canLay0, b2], by simp [py, PyData.depth]; omega, by simp [py, PyData.eqv, b4]⟩
theorem okk_okEq {k : Nat} {d : D} (h : okk k d = true) (hk : k ≤ 60) : okEq d = true := by
  obtain ⟨a1, a2, a3, _⟩ := okk_ok k d h
  simp [okEq, SeqAt.shaped, a1, a2]; omega
theorem gEq_refl {k : Nat} {d : D} (h : okk k d = true) (hk : k ≤ 60) : gEq d d = .ok (false, .bl true) := by
  rw [gEq_ok (okk_okEq h hk) (okk_okEq h hk)]
  have := (okk_ok k d h).2.2.2
  simp [eqv, this]
theorem gNe_refl {k : Nat} {d : D} (h : okk k d = true) (hk : k ≤ 60) : gNe d d = .ok (false, .bl false) := by
  rw [gNe_ok (okk_okEq h hk) (okk_okEq h hk)]
  have := (okk_ok k d h).2.2.2
  simp [eqv, this]
theorem okk_ints {k : Nat} {ns : List Int} : (ns.map D.int).all (okk (k + 1)) = true := by
  rw [List.all_eq_true]
  intro x hx
  rw [List.mem_map] at hx
  obtain ⟨n, _, rfl⟩ := hx
  rfl
theorem okk_IL {k : Nat} {ns : List Int} : okk (k + 2) (IL ns) = true := okk_ints
theorem okk_IT {k : Nat} {ns : List Int} : okk (k + 2) (IT ns) = true := okk_ints
theorem okk_LT {k : Nat} {L : List (List Int)} : okk (k + 3) (Ls (Tp D.int) L) = true := by
  show (L.map (Tp D.int)).all (okk (k + 2)) = true
  rw [List.all_eq_true]
  intro x hx
  rw [List.mem_map] at hx
  obtain ⟨n, _, rfl⟩ := hx
  exact okk_IT
end S

/-! terms as trees; no program in sight -/
inductive Trm where
  | spot (n : Nat) | lam (b : Trm) | app (t u : Trm)
  deriving DecidableEq, Inhabited
namespace Trm
def fl : Trm → List Int
  | spot n => [(n : Int)]
  | lam b => -1 :: fl b
  | app t u => -2 :: (fl t ++ fl u)
def sz : Trm → Nat
  | spot _ => 1
  | lam b => sz b + 1
  | app t u => sz t + sz u + 1
@[simp] theorem fl_len : ∀ t : Trm, (fl t).length = sz t
  | spot n => rfl
  | lam b => by simp [fl, sz, fl_len b]
  | app t u => by simp [fl, sz, fl_len t, fl_len u]
theorem sz_pos : ∀ t : Trm, 0 < sz t
  | spot n => by simp [sz]
  | lam b => by simp [sz]
  | app t u => by simp [sz]
theorem fl_ne (t : Trm) : fl t ≠ [] := fun h => by
  have := fl_len t
  rw [h] at this
  have := sz_pos t
  simp at *; omega
/-- for each place the place behind its part, the first place being k -/
def ends : Nat → Trm → List Int
  | k, spot _ => [((k + 1 : Nat) : Int)]
  | k, lam b => ((k + (sz b + 1) : Nat) : Int) :: ends (k + 1) b
  | k, app t u => ((k + (sz t + sz u + 1) : Nat) : Int) :: (ends (k + 1) t ++ ends (k + 1 + sz t) u)
@[simp] theorem ends_len : ∀ (k : Nat) (t : Trm), (ends k t).length = sz t
  | _, spot n => rfl
  | k, lam b => by simp [ends, sz, ends_len _ b]
  | k, app t u => by simp [ends, sz, ends_len _ t, ends_len _ u]
theorem ends_head (k : Nat) (t : Trm) : ∃ r, ends k t = ((k + sz t : Nat) : Int) :: r := by
  cases t with
  | spot n => exact ⟨_, rfl⟩
  | lam b => exact ⟨_, rfl⟩
  | app t u => exact ⟨_, rfl⟩
/-- for each place how many turns are around it, d around the term -/
def arounds : Nat → Trm → List Int
  | d, spot _ => [(d : Int)]
  | d, lam b => (d : Int) :: arounds (d + 1) b
  | d, app t u => (d : Int) :: (arounds d t ++ arounds d u)
@[simp] theorem arounds_len : ∀ (d : Nat) (t : Trm), (arounds d t).length = sz t
  | _, spot n => rfl
  | d, lam b => by simp [arounds, sz, arounds_len _ b]
  | d, app t u => by simp [arounds, sz, arounds_len _ t, arounds_len _ u]
/-- all open spots are below k -/
def ob : Nat → Trm → Prop
  | k, spot n => n < k
  | k, lam b => ob (k + 1) b
  | k, app t u => ob k t ∧ ob k u
theorem ob_mono : ∀ {t : Trm} {k l : Nat}, k ≤ l → ob k t → ob l t
  | spot n, k, l, h, q => Nat.lt_of_lt_of_le (show n < k from q) h
  | lam b, k, l, h, q => ob_mono (t := b) (by omega) q
  | app t u, k, l, h, q => ⟨ob_mono h q.1, ob_mono h q.2⟩
/-- the greatest spot -/
def fit (m : Nat) : Trm → Prop
  | spot n => n ≤ m
  | lam b => fit m b
  | app t u => fit m t ∧ fit m u
instance fitD : (m : Nat) → (t : Trm) → Decidable (fit m t)
  | m, spot n => inferInstanceAs (Decidable (n ≤ m))
  | m, lam b => fitD m b
  | m, app t u => @instDecidableAnd _ _ (fitD m t) (fitD m u)
instance obD : (k : Nat) → (t : Trm) → Decidable (ob k t)
  | m, spot n => inferInstanceAs (Decidable (n < m))
  | m, lam b => obD (m + 1) b
  | m, app t u => @instDecidableAnd _ _ (obD m t) (obD m u)
theorem fit_mono {m n : Nat} (h : m ≤ n) : ∀ {t : Trm}, fit m t → fit n t
  | spot k, q => Nat.le_trans (show k ≤ m from q) h
  | lam b, q => fit_mono h (t := b) q
  | app t u, q => ⟨fit_mono h q.1, fit_mono h q.2⟩
theorem ob_fit : ∀ {t : Trm} {k m : Nat}, ob k t → k + sz t ≤ m + 2 → fit m t
  | spot n, k, m, q, h => by simp only [ob, sz, fit] at *; omega
  | lam b, k, m, q, h => by
    simp only [ob, sz, fit] at *
    exact ob_fit q (by omega)
  | app t u, k, m, q, h => by
    simp only [ob, sz, fit] at *
    have := sz_pos t
    have := sz_pos u
    exact ⟨ob_fit q.1 (by omega), ob_fit q.2 (by omega)⟩
theorem fl_ge : ∀ {t : Trm} {n : Int}, n ∈ fl t → -2 ≤ n
  | spot k, n, h => by simp [fl] at h; omega
  | lam b, n, h => by
    simp [fl] at h
    rcases h with rfl | h
    · omega
    · exact fl_ge h
  | app t u, n, h => by
    simp [fl] at h
    rcases h with rfl | h | h
    · omega
    · exact fl_ge h
    · exact fl_ge h
theorem fit_iff {m : Nat} : ∀ {t : Trm}, fit m t ↔ ∀ n ∈ fl t, n ≤ (m : Int)
  | spot k => by simp [fl, fit]
  | lam b => by simp [fl, fit, fit_iff (t := b)]
  | app t u => by
    simp only [fl, fit, fit_iff (t := t), fit_iff (t := u), List.mem_cons, List.mem_append]
    constructor
    · rintro ⟨h1, h2⟩ n (rfl | h | h)
      · omega
      · exact h1 n h
      · exact h2 n h
    · exact fun h => ⟨fun n q => h n (.inr (.inl q)), fun n q => h n (.inr (.inr q))⟩
/-- how many more are due behind a sign -/
def dueOf (n : Int) : Int := if n = -2 then 1 else if n = -1 then 0 else -1
/-- read from the left -/
def rd : Int → List Int → Bool
  | due, [] => decide (due = 0)
  | due, n :: r => if due = 0 then false else rd (due + dueOf n) r
theorem rd_fl : ∀ (t : Trm) (due : Int) (r : List Int), 0 < due → rd due (fl t ++ r) = rd (due - 1) r
  | spot n, due, r, h => by
    have e : dueOf (n : Int) = -1 := by unfold dueOf; rw [if_neg (by omega), if_neg (by omega)]
    simp only [fl, List.cons_append, List.nil_append, rd]
    rw [if_neg (by omega), e]; rfl
  | lam b, due, r, h => by
    simp only [fl, List.cons_append, rd]
    rw [if_neg (by omega), show dueOf (-1) = 0 from rfl, rd_fl b _ r (by omega)]; simp
  | app t u, due, r, h => by
    simp only [fl, List.cons_append, rd, List.append_assoc]
    rw [if_neg (by omega), show dueOf (-2) = 1 from rfl, rd_fl t _ _ (by omega), rd_fl u _ r (by omega)]
    congr 1; omega
theorem rd_fl1 (t : Trm) : rd 1 (fl t) = true := by
  have := rd_fl t 1 [] (by omega)
  rw [List.append_nil] at this
  rw [this]; rfl
/-- what is read is one term -/
theorem rd_inv : ∀ (xs : List Int) (k : Nat), (∀ n ∈ xs, -2 ≤ n) → rd (k : Int) xs = true → ∃ ts : List Trm, ts.length = k ∧ xs = (ts.map fl).flatten
  | [], k, _, h => by
    simp [rd] at h
    subst h
    exact ⟨[], rfl, rfl⟩
  | n :: r, k, hn, h => by
    simp only [rd] at h
    split at h
    · cases h
    · rename_i hk
      have hk : k ≠ 0 := by omega
      have hr : ∀ n ∈ r, -2 ≤ n := fun m q => hn m (by simp [q])
      by_cases h2 : n = -2
      · subst h2
        rw [show (k : Int) + dueOf (-2) = ((k + 1 : Nat) : Int) from by rw [show dueOf (-2) = 1 from rfl]; omega] at h
        obtain ⟨ts, e1, e2⟩ := rd_inv r (k + 1) hr h
        match ts, e1 with
        | t :: u :: ts, e1 => exact ⟨app t u :: ts, by simp at e1 ⊢; omega, by rw [e2]; simp [fl]⟩
        | [t], e1 => simp at e1; omega
        | [], e1 => simp at e1
      · by_cases h1 : n = -1
        · subst h1
          rw [show (k : Int) + dueOf (-1) = (k : Int) from by rw [show dueOf (-1) = 0 from rfl]; omega] at h
          obtain ⟨ts, e1, e2⟩ := rd_inv r k hr h
          match ts, e1 with
          | t :: ts, e1 => exact ⟨lam t :: ts, e1, by rw [e2]; simp [fl]⟩
          | [], e1 => simp at e1; omega
        · rw [show (k : Int) + dueOf n = ((k - 1 : Nat) : Int) from by unfold dueOf; rw [if_neg h2, if_neg h1]; omega] at h
          obtain ⟨ts, e1, e2⟩ := rd_inv r (k - 1) hr h
          have := hn n (by simp)
          refine ⟨spot n.toNat :: ts, by simp; omega, ?_⟩
          rw [e2]
          simp [fl]; omega
theorem rd_tree {xs : List Int} (hn : ∀ n ∈ xs, -2 ≤ n) (h : rd 1 xs = true) : ∃ t : Trm, xs = fl t := by
  obtain ⟨ts, e1, e2⟩ := rd_inv xs 1 hn h
  match ts, e1 with
  | [t], _ => exact ⟨t, by simpa using e2⟩
/-- reading is one-to-one, what stands behind is kept apart -/
theorem fl_inj : ∀ {t u : Trm} {r s : List Int}, fl t ++ r = fl u ++ s → t = u ∧ r = s
  | spot n, u, r, s, h => by
    cases u with
    | spot m => simp [fl] at h; exact ⟨by rw [show n = m by omega], h.2⟩
    | lam b => simp [fl] at h <;> omega
    | app a b => simp [fl] at h <;> omega
  | lam b, u, r, s, h => by
    cases u with
    | spot m => simp [fl] at h <;> omega
    | lam c =>
      simp [fl] at h
      obtain ⟨e1, e2⟩ := fl_inj h
      exact ⟨by rw [e1], e2⟩
    | app a c => simp [fl] at h
  | app a b, u, r, s, h => by
    cases u with
    | spot m => simp [fl] at h <;> omega
    | lam c => simp [fl] at h
    | app c d =>
      simp [fl] at h
      obtain ⟨e1, e2⟩ := fl_inj h
      obtain ⟨e3, e4⟩ := fl_inj e2
      exact ⟨by rw [e1, e3], e4⟩
theorem fl_inj0 {t u : Trm} (h : fl t = fl u) : t = u := (fl_inj (r := []) (s := []) (by rw [h])).1
/-- open spots from l on are m more -/
def sh (m l : Nat) : Nat → Trm → Trm
  | d, spot n => spot (if d + l ≤ n then n + m else n)
  | d, lam b => lam (sh m l (d + 1) b)
  | d, app t u => app (sh m l d t) (sh m l d u)
@[simp] theorem sh_sz (m l : Nat) : ∀ (d : Nat) (t : Trm), sz (sh m l d t) = sz t
  | d, spot n => rfl
  | d, lam b => by simp [sh, sz, sh_sz m l (d + 1) b]
  | d, app t u => by simp [sh, sz, sh_sz m l d t, sh_sz m l d u]
@[simp] theorem sh_ar (m l : Nat) : ∀ (d e : Nat) (t : Trm), arounds e (sh m l d t) = arounds e t
  | d, e, spot n => rfl
  | d, e, lam b => by simp [sh, arounds, sh_ar m l (d + 1) (e + 1) b]
  | d, e, app t u => by simp [sh, arounds, sh_ar m l d e t, sh_ar m l d e u]
def mvN (m l : Int) (p : Int × Int) : Int := if p.2 + l ≤ p.1 then p.1 + m else p.1
theorem sh_fl (m l : Nat) : ∀ (d : Nat) (t : Trm), fl (sh m l d t) = ((fl t).zip (arounds d t)).map (mvN m l)
  | d, spot n => by
    simp only [sh, fl, arounds, List.zip_cons_cons, List.zip_nil_left, List.map_cons, List.map_nil, mvN]
    by_cases h : d + l ≤ n
    · rw [if_pos h, if_pos (by omega)]; simp
    · rw [if_neg h, if_neg (by omega)]
  | d, lam b => by
    simp only [sh, fl, arounds, List.zip_cons_cons, List.map_cons, sh_fl m l (d + 1) b, mvN]
    rw [if_neg (by omega)]
  | d, app t u => by
    simp only [sh, fl, arounds, List.zip_cons_cons, List.map_cons, mvN]
    rw [if_neg (by omega), List.zip_append (by simp), List.map_append, sh_fl m l d t, sh_fl m l d u]
theorem sh_sh (m m2 l : Nat) : ∀ (d : Nat) (t : Trm), sh m2 l d (sh m l d t) = sh (m + m2) l d t
  | d, spot n => by
    simp only [sh]
    by_cases h : d + l ≤ n
    · rw [if_pos h, if_pos (by omega), if_pos h]; congr 1; omega
    · rw [if_neg h, if_neg h, if_neg h]
  | d, lam b => by simp only [sh, sh_sh m m2 l (d + 1) b]
  | d, app t u => by simp only [sh, sh_sh m m2 l d t, sh_sh m m2 l d u]
theorem sh_fit {m l k : Nat} : ∀ {d : Nat} {t : Trm}, fit k t → fit (k + m) (sh m l d t)
  | d, spot n, h => by
    simp only [sh, fit] at *
    split <;> omega
  | d, lam b, h => by
    simp only [sh, fit] at *
    exact sh_fit h
  | d, app t u, h => ⟨sh_fit h.1, sh_fit h.2⟩
/-- u put in for the open spot 0, d turns around -/
def pt (u : Trm) : Nat → Trm → Trm
  | d, spot n => if n = d then sh d 0 0 u else spot (if d < n then n - 1 else n)
  | d, lam b => lam (pt u (d + 1) b)
  | d, app t s => app (pt u d t) (pt u d s)
def ptN (u : Trm) (p : Int × Int) : List Int := if p.1 = p.2 then fl (sh p.2.toNat 0 0 u) else [if p.2 < p.1 then p.1 - 1 else p.1]
theorem pt_fl (u : Trm) : ∀ (d : Nat) (t : Trm), fl (pt u d t) = (((fl t).zip (arounds d t)).map (ptN u)).flatten
  | d, spot n => by
    have e : fl (pt u d (spot n)) = ptN u ((n : Int), (d : Int)) := by
      unfold ptN
      by_cases h : n = d
      · subst h; simp [pt]
      · have h' : ¬ (n : Int) = d := by omega
        by_cases h2 : d < n
        · have h3 : (d : Int) < n := by omega
          rw [if_neg h', if_pos h3]
          simp [pt, h, h2, fl]; omega
        · have h3 : ¬ (d : Int) < n := by omega
          rw [if_neg h', if_neg h3]
          simp [pt, h, h2, fl]
    rw [e]
    simp [fl, arounds]
  | d, lam b => by
    simp only [pt, fl, arounds, List.zip_cons_cons, List.map_cons, pt_fl u (d + 1) b, ptN, List.flatten_cons]
    rw [if_neg (by omega), if_neg (by omega)]; rfl
  | d, app t s => by
    simp only [pt, fl, arounds, List.zip_cons_cons, List.map_cons, ptN, List.flatten_cons]
    rw [if_neg (by omega), if_neg (by omega), List.zip_append (by simp), List.map_append, List.flatten_append, pt_fl u d t, pt_fl u d s]; rfl
theorem pt_sz (u : Trm) : ∀ (d : Nat) (t : Trm), sz (pt u d t) ≤ sz t * sz u
  | d, spot n => by
    have := sz_pos u
    simp only [pt]
    split
    · simp [sz]
    · simp [sz]; omega
  | d, lam b => by
    have := sz_pos u
    have := pt_sz u (d + 1) b
    simp only [pt, sz, Nat.add_mul]; omega
  | d, app t s => by
    have := sz_pos u
    have := pt_sz u d t
    have := pt_sz u d s
    simp only [pt, sz, Nat.add_mul]; omega
/-- the part at a place -/
def sub : Trm → Nat → Trm
  | t, 0 => t
  | spot n, _ + 1 => spot n
  | lam b, p + 1 => sub b p
  | app t u, p + 1 => if p < sz t then sub t p else sub u (p - sz t)
/-- another part at a place -/
def rep (s : Trm) : Trm → Nat → Trm
  | _, 0 => s
  | spot n, _ + 1 => spot n
  | lam b, p + 1 => lam (rep s b p)
  | app t u, p + 1 => if p < sz t then app (rep s t p) u else app t (rep s u (p - sz t))
theorem sub_split : ∀ (t : Trm) (p : Nat), p < sz t → ∃ pre suf : List Int, pre.length = p ∧ fl t = pre ++ fl (sub t p) ++ suf ∧ ∀ s, fl (rep s t p) = pre ++ fl s ++ suf
  | t, 0, _ => ⟨[], [], rfl, by simp [sub], fun s => by cases t <;> simp [rep]⟩
  | spot n, p + 1, h => by simp [sz] at h
  | lam b, p + 1, h => by
    obtain ⟨pre, suf, h1, h2, h3⟩ := sub_split b p (by simp [sz] at h; omega)
    exact ⟨-1 :: pre, suf, by simp [h1], by simp [sub, fl, h2], fun s => by simp [rep, fl, h3]⟩
  | app t u, p + 1, h => by
    simp only [sz] at h
    by_cases hp : p < sz t
    · obtain ⟨pre, suf, h1, h2, h3⟩ := sub_split t p hp
      exact ⟨-2 :: pre, suf ++ fl u, by simp [h1], by simp only [sub, if_pos hp, fl]; rw [h2]; simp, fun s => by simp [rep, hp, fl, h3]⟩
    · obtain ⟨pre, suf, h1, h2, h3⟩ := sub_split u (p - sz t) (by omega)
      exact ⟨-2 :: (fl t ++ pre), suf, by simp [h1]; omega, by simp only [sub, if_neg hp, fl]; rw [h2]; simp, fun s => by simp [rep, hp, fl, h3]⟩
theorem sub_sz : ∀ (t : Trm) (p : Nat), p < sz t → p + sz (sub t p) ≤ sz t := fun t p h => by
  obtain ⟨pre, suf, h1, h2, _⟩ := sub_split t p h
  have := congrArg List.length h2
  simp at this
  omega
theorem rep_sz {s t : Trm} {p : Nat} (h : p < sz t) : sz (rep s t p) + sz (sub t p) = sz t + sz s := by
  obtain ⟨pre, suf, h1, h2, h3⟩ := sub_split t p h
  have e1 := congrArg List.length h2
  have e2 := congrArg List.length (h3 s)
  simp at e1 e2
  omega
/-- a step stands at p -/
def isRed : Trm → Bool
  | app (lam _) _ => true
  | _ => false
def con : Trm → Trm
  | app (lam b) u => pt u 0 b
  | t => t
def stp (t : Trm) (p : Nat) : Trm := rep (con (sub t p)) t p
theorem head_iff (t : Trm) : isRed t = true ↔ ∃ r, fl t = -2 :: -1 :: r := by
  cases t with
  | spot n => simp [isRed, fl]
  | lam b => simp [isRed, fl]
  | app t u =>
    cases t with
    | spot n => simp [isRed, fl] <;> omega
    | lam b => simp [isRed, fl]
    | app a b => simp [isRed, fl]
theorem red_iff {t : Trm} {p : Nat} (h : p < sz t) : isRed (sub t p) = true ↔ (fl t)[p]? = some (-2) ∧ (fl t)[p + 1]? = some (-1) := by
  obtain ⟨pre, suf, h1, h2, _⟩ := sub_split t p h
  rw [head_iff]
  subst h1
  rw [h2]
  generalize hs : sub t pre.length = s
  constructor
  · rintro ⟨r, e⟩
    rw [e]
    refine ⟨by simp, ?_⟩
    rw [show pre ++ -2 :: -1 :: r ++ suf = (pre ++ [-2]) ++ (-1 :: (r ++ suf)) by simp, List.getElem?_append_right (by simp)]
    simp
  · rintro ⟨e1, e2⟩
    cases s with
    | spot n =>
      exfalso
      rw [List.append_assoc, List.getElem?_append_right (Nat.le_refl _)] at e1
      simp [fl] at e1 <;> omega
    | lam b =>
      exfalso
      rw [List.append_assoc, List.getElem?_append_right (Nat.le_refl _)] at e1
      simp [fl] at e1
    | app a b =>
      rw [List.append_assoc, List.getElem?_append_right (by omega)] at e2
      simp [fl] at e2
      cases a with
      | spot n => simp [fl] at e2 <;> omega
      | lam c => exact ⟨_, rfl⟩
      | app c d => simp [fl] at e2
/-! open spots stay below -/
theorem sh_ob {m : Nat} : ∀ {d k : Nat} {t : Trm}, ob (d + k) t → ob (d + k + m) (sh m 0 d t)
  | d, k, spot n, h => by
    simp only [sh, ob] at *
    split <;> omega
  | d, k, lam b, h => by
    simp only [sh, ob] at *
    have := sh_ob (m := m) (d := d + 1) (k := k) (t := b) (by rw [show d + 1 + k = d + k + 1 by omega]; exact h)
    rw [show d + k + m + 1 = d + 1 + k + m by omega]; exact this
  | d, k, app t u, h => ⟨sh_ob h.1, sh_ob h.2⟩
theorem pt_ob {u : Trm} {k : Nat} (hu : ob k u) : ∀ {d : Nat} {t : Trm}, ob (d + k + 1) t → ob (d + k) (pt u d t)
  | d, spot n, h => by
    simp only [pt, ob] at *
    split
    · have := sh_ob (m := d) (d := 0) (k := k) (t := u) (by simpa using hu)
      rw [show d + k = 0 + k + d by omega]; exact this
    · show (if d < n then n - 1 else n) < d + k
      split <;> omega
  | d, lam b, h => by
    simp only [pt, ob] at *
    have := pt_ob hu (d := d + 1) (t := b) (by rw [show d + 1 + k + 1 = d + k + 1 + 1 by omega]; exact h)
    rw [show d + k + 1 = d + 1 + k by omega]; exact this
  | d, app t u, h => ⟨pt_ob hu h.1, pt_ob hu h.2⟩
theorem con_ob {k : Nat} {t : Trm} (h : ob k t) : ob k (con t) := by
  cases t with
  | app t u =>
    cases t with
    | lam b =>
      have h' : ob (k + 1) b ∧ ob k u := h
      have := pt_ob (u := u) (k := k) (d := 0) h'.2 (t := b) (by rw [Nat.zero_add]; exact h'.1)
      rw [Nat.zero_add] at this
      exact this
    | _ => exact h
  | _ => exact h
theorem stp_ob : ∀ {t : Trm} {p k : Nat}, p < sz t → ob k t → ob k (stp t p)
  | t, 0, k, _, h => by
    have e : stp t 0 = con t := by cases t <;> simp [stp, rep, sub]
    rw [e]; exact con_ob h
  | spot n, p + 1, k, hp, h => by simp [sz] at hp
  | lam b, p + 1, k, hp, h => by
    have := stp_ob (t := b) (p := p) (k := k + 1) (by simp [sz] at hp; omega) h
    exact this
  | app t u, p + 1, k, hp, h => by
    simp only [sz] at hp
    by_cases hq : p < sz t
    · have := stp_ob (t := t) (p := p) hq h.1
      simp only [stp, sub, rep, if_pos hq]
      exact ⟨this, h.2⟩
    · have := stp_ob (t := u) (p := p - sz t) (by omega) h.2
      simp only [stp, sub, rep, if_neg hq]
      exact ⟨h.1, this⟩
theorem con_sz (t : Trm) : sz (con t) ≤ sz t * sz t := by
  have h0 := sz_pos t
  cases t with
  | app t u =>
    cases t with
    | lam b =>
      have h1 := pt_sz u 0 b
      have h2 := sz_pos u
      have h3 := sz_pos b
      refine Nat.le_trans h1 (Nat.mul_le_mul ?_ ?_) <;> simp [sz] <;> omega
    | _ => exact Nat.le_mul_of_pos_left _ h0
  | _ => exact Nat.le_mul_of_pos_left _ h0
theorem stp_sz {t : Trm} {p : Nat} (h : p < sz t) : sz (stp t p) ≤ sz t + sz t * sz t := by
  have h1 := rep_sz (s := con (sub t p)) h
  have h2 := con_sz (sub t p)
  have h3 := sub_sz t p h
  have h4 := Nat.mul_le_mul (show sz (sub t p) ≤ sz t by omega) (show sz (sub t p) ≤ sz t by omega)
  show sz (rep _ t p) ≤ _
  omega
end Trm

namespace Law
open PySem PySem.Spec PyProof.Rows L2 S
def tblHow : HowT := howS [("NoTerm", "NoTerm"), ("NoPlace", "NoPlace"), ("NoSize", "NoSize"), ("NoOpening", "NoOpening")] []
noncomputable def b_law_cell_at : S.Env → Out :=
  mSeq (mIf (tE (eOp gLt (eVar 1) (eFn fLen (aCons (eVar 0) aNil)))) (mRet (eOp gIx (eVar 0) (eVar 1))) mNil)
  (mRet (eOp gAdd (eOp gAdd (eOp gMod (eFn fSum (aCons (eVar 0) aNil)) (eC (.int 999999937))) (eOp gMul (eC (.int 3)) (eVar 1))) (eC (.int 2))))
noncomputable def m_law_cell_at : List D → RD := mFn 2 2 b_law_cell_at
noncomputable def b_law_mixed : S.Env → Out :=
  mSeq (mSet 2 (((([0] ++ []) ++ []) ++ ((([1] ++ [1]) ++ ([] ++ [1])) ++ [])) ++ ([1] ++ [])) (eOp gAdd (eOp gMul (eOp gAdd (eOp gMod (eVar 0) (eC (.int 2147483629))) (eC (.int 1))) (eOp gAdd (eOp gAdd (eOp gMul (eVar 1) (eVar 1)) (eOp gMul (eC (.int 3)) (eVar 1))) (eC (.int 11)))) (eOp gMul (eVar 1) (eC (.int 10007)))))
  (mRet (eOp gFdiv (eOp gMod (eOp gPow (eVar 2) (eC (.int 5))) (eC (.int 2147483647))) (eC (.int 16))))
noncomputable def m_law_mixed : List D → RD := mFn 2 3 b_law_mixed
noncomputable def b_law_numbers_1 : S.Env → Out :=
  mSeq (mSet 6 ((([0] ++ ([4] ++ [])) ++ []) ++ [5]) (eOp gMod (eOp gPow (eFn m_law_mixed (aCons (eVar 0) (aCons (eVar 4) aNil))) (eC (.int 9))) (eVar 5)))
  (mSeq (mIf (tE (eOp gLt (eVar 5) (eOp gPow (eC (.int 10)) (eC (.int 7))))) (mSet 6 (([0] ++ ([4] ++ [])) ++ [5]) (eOp gMod (eFn m_law_mixed (aCons (eVar 0) (aCons (eVar 4) aNil))) (eVar 5))) mNil)
  (mSeq (mIf (tE (eOp gGt (eVar 3) (eC (.int 0)))) (mSeq (mSet 6 ([3] ++ [5]) (eOp gMod (eVar 3) (eVar 5)))
  (mSet 3 ([3] ++ [5]) (eOp gFdiv (eVar 3) (eVar 5)))) mNil)
  (mApp 2 (eVar 6))))
noncomputable def b_law_numbers : S.Env → Out :=
  mSeq (mSet 2 [] (eLst aNil))
  (mSeq (mSet 3 [] (eC (.int 0)))
  (mSeq (mIf (tE (eOp gGe (eVar 0) (eOp gPow (eC (.int 10)) (eC (.int 18))))) (mSet 3 ([0] ++ ([] ++ [])) (eOp gSub (eVar 0) (eOp gPow (eC (.int 10)) (eC (.int 18))))) mNil)
  (mSeq (mFor [1] (iEnum (eVar 1)) (gTup 2 (gCons (gName 4) (gCons (gName 5) gNil))) b_law_numbers_1)
  (mRetV 2))))
noncomputable def m_law_numbers : List D → RD := mFn 2 7 b_law_numbers
noncomputable def b_law_ends_1 : S.Env → Out :=
  mSeq (mStoreU 1 (eVar 2) (eOp gAdd (eVar 2) (eC (.int 1))))
  (mSeq (mIf (tE (eOp gEq (eOp gIx (eVar 0) (eVar 2)) (eUn gNeg (eC (.int 1))))) (mStoreU 1 (eVar 2) (eOp gIx (eVar 1) (eOp gAdd (eVar 2) (eC (.int 1))))) mNil)
  (mIf (tE (eOp gEq (eOp gIx (eVar 0) (eVar 2)) (eUn gNeg (eC (.int 2))))) (mStoreU 1 (eVar 2) (eOp gIx (eVar 1) (eOp gIx (eVar 1) (eOp gAdd (eVar 2) (eC (.int 1)))))) mNil))
noncomputable def b_law_ends : S.Env → Out :=
  mSeq (mSet 1 (([] ++ []) ++ ([0] ++ [])) (eOp gMul (eLst (aCons (eC (.int 0)) aNil)) (eFn fLen (aCons (eVar 0) aNil))))
  (mSeq (mFor [] (iRangeD (eOp gSub (eFn fLen (aCons (eVar 0) aNil)) (eC (.int 1))) (eUn gNeg (eC (.int 1)))) (gName 2) b_law_ends_1)
  (mRetV 1))
noncomputable def m_law_ends : List D → RD := mFn 1 3 b_law_ends
noncomputable def b_law_about_1 : S.Env → Out :=
  mAugS (· + ·) 2 (eVar 5) (eC (.int 1))
noncomputable def b_law_about_2 : S.Env → Out :=
  mIf (tE (eOp gEq (eVar 4) (eUn gNeg (eC (.int 1))))) (mFor [] (iRange2 (eOp gAdd (eVar 3) (eC (.int 1))) (eOp gIx (eVar 1) (eVar 3))) (gName 5) b_law_about_1) mNil
noncomputable def b_law_about : S.Env → Out :=
  mSeq (mSet 1 ([0] ++ []) (eFn m_law_ends (aCons (eVar 0) aNil)))
  (mSeq (mSet 2 (([] ++ []) ++ ([0] ++ [])) (eOp gMul (eLst (aCons (eC (.int 0)) aNil)) (eFn fLen (aCons (eVar 0) aNil))))
  (mSeq (mFor [0] (iEnum (eVar 0)) (gTup 2 (gCons (gName 3) (gCons (gName 4) gNil))) b_law_about_2)
  (mRetV 2)))
noncomputable def m_law_about : List D → RD := mFn 1 6 b_law_about
noncomputable def b_law_moved_1 : S.Env → Out :=
  mSeq (mIf (tE (eOp gGe (eVar 3) (eVar 4))) (mSet 3 ([3] ++ [1]) (eOp gAdd (eVar 3) (eVar 1))) mNil)
  (mApp 2 (eVar 3))
noncomputable def b_law_moved : S.Env → Out :=
  mSeq (mSet 2 [] (eLst aNil))
  (mSeq (mFor ([0] ++ ([0] ++ [])) (iZip (eVar 0) (eFn m_law_about (aCons (eVar 0) aNil))) (gTup 2 (gCons (gName 3) (gCons (gName 4) gNil))) b_law_moved_1)
  (mRet (eFn fTuple (aCons (eVar 2) aNil))))
noncomputable def m_law_moved : List D → RD := mFn 2 5 b_law_moved
noncomputable def b_law_opened : S.Env → Out :=
  mSeq (mSet 2 (([0] ++ []) ++ [1]) (eOp gIx (eFn m_law_ends (aCons (eVar 0) aNil)) (eVar 1)))
  (mRet (eOp gAdd (eOp gAdd (eOp gAdd (eOp gAdd (eSl (eVar 0) oNone (oSome (eVar 1))) (eTup (aCons (eUn gNeg (eC (.int 1))) (aCons (eUn gNeg (eC (.int 2))) aNil)))) (eFn m_law_moved (aCons (eSl (eVar 0) (oSome (eVar 1)) (oSome (eVar 2))) (aCons (eC (.int 1)) aNil)))) (eTup (aCons (eC (.int 0)) aNil))) (eSl (eVar 0) (oSome (eVar 2)) oNone)))
noncomputable def m_law_opened : List D → RD := mFn 2 3 b_law_opened
noncomputable def b_law_closed_again_1 : S.Env → Out :=
  mSeq (mIf (tE (eOp gEq (eVar 4) (eVar 5))) (mRet (eC .non)) mNil)
  (mSeq (mIf (tE (eOp gGt (eVar 4) (eVar 5))) (mSet 4 ([4] ++ []) (eOp gSub (eVar 4) (eC (.int 1)))) mNil)
  (mApp 3 (eVar 4)))
noncomputable def b_law_closed_again : S.Env → Out :=
  mSeq (mIf (tOr (tE (eOp gNe (eOp gIx (eVar 0) (eVar 1)) (eUn gNeg (eC (.int 1))))) (tE (eOp gNe (eOp gIx (eVar 0) (eOp gAdd (eVar 1) (eC (.int 1)))) (eUn gNeg (eC (.int 2)))))) (mRet (eC .non)) mNil)
  (mSeq (mSet 2 (([0] ++ []) ++ ([1] ++ [])) (eOp gIx (eFn m_law_ends (aCons (eVar 0) aNil)) (eOp gAdd (eVar 1) (eC (.int 2)))))
  (mSeq (mSet 3 [] (eLst aNil))
  (mSeq (mFor ([0] ++ ([0] ++ [])) (iZip (eSl (eVar 0) (oSome (eOp gAdd (eVar 1) (eC (.int 2)))) (oSome (eVar 2))) (eFn m_law_about (aCons (eSl (eVar 0) (oSome (eOp gAdd (eVar 1) (eC (.int 2)))) (oSome (eVar 2))) aNil))) (gTup 2 (gCons (gName 4) (gCons (gName 5) gNil))) b_law_closed_again_1)
  (mSeq (mIf (tE (eOp gNe (eOp gIx (eVar 0) (eVar 2)) (eC (.int 0)))) (mRet (eC .non)) mNil)
  (mRet (eOp gAdd (eOp gAdd (eSl (eVar 0) oNone (oSome (eVar 1))) (eFn fTuple (aCons (eVar 3) aNil))) (eSl (eVar 0) (oSome (eOp gAdd (eVar 2) (eC (.int 1)))) oNone)))))))
noncomputable def m_law_closed_again : List D → RD := mFn 2 6 b_law_closed_again
noncomputable def b_law_openings : S.Env → Out :=
  mRet (eComp [] [1] (iRange1 (eFn fLen (aCons (eVar 0) aNil))) (gName 1) (tE (eUn gNotN (eFn m_law_closed_again (aCons (eVar 0) (aCons (eVar 1) aNil))))) (eVar 1))
noncomputable def m_law_openings : List D → RD := mFn 1 2 b_law_openings
noncomputable def b_all_ends_1 : S.Env → Out :=
  mSeq (mStoreU 1 (eVar 2) (eOp gAdd (eVar 2) (eC (.int 1))))
  (mSeq (mIf (tE (eOp gEq (eOp gIx (eVar 0) (eVar 2)) (eC (.int (-1))))) (mStoreU 1 (eVar 2) (eOp gIx (eVar 1) (eOp gAdd (eVar 2) (eC (.int 1))))) mNil)
  (mIf (tE (eOp gEq (eOp gIx (eVar 0) (eVar 2)) (eC (.int (-2))))) (mStoreU 1 (eVar 2) (eOp gIx (eVar 1) (eOp gIx (eVar 1) (eOp gAdd (eVar 2) (eC (.int 1)))))) mNil))
noncomputable def b_all_ends : S.Env → Out :=
  mSeq (mSet 1 ([0] ++ []) (eComp [0] [3] (iSeq (eVar 0)) (gName 3) tYes (eC (.int 0))))
  (mSeq (mFor [] (iRangeD (eOp gSub (eFn fLen (aCons (eVar 0) aNil)) (eC (.int 1))) (eUn gNeg (eC (.int 1)))) (gName 2) b_all_ends_1)
  (mRetV 1))
noncomputable def m_all_ends : List D → RD := mFn 1 4 b_all_ends
noncomputable def b_all_around_1 : S.Env → Out :=
  mPop 2
noncomputable def b_all_around_2 : S.Env → Out :=
  mSeq (mWhile (tAnd (tE (eOp gNe (eVar 2) (eLst aNil))) (tE (eOp gLe (eOp gIx (eVar 2) (eUn gNeg (eC (.int 1)))) (eVar 4)))) b_all_around_1)
  (mSeq (mApp 3 (eFn fLen (aCons (eVar 2) aNil)))
  (mIf (tE (eOp gEq (eVar 5) (eC (.int (-1))))) (mApp 2 (eOp gIx (eVar 1) (eVar 4))) mNil))
noncomputable def b_all_around : S.Env → Out :=
  mSeq (mSet 1 ([0] ++ []) (eFn m_all_ends (aCons (eVar 0) aNil)))
  (mSeq (mSet 2 [] (eLst aNil))
  (mSeq (mSet 3 [] (eLst aNil))
  (mSeq (mFor [0] (iEnum (eVar 0)) (gTup 2 (gCons (gName 4) (gCons (gName 5) gNil))) b_all_around_2)
  (mRetV 3))))
noncomputable def m_all_around : List D → RD := mFn 1 6 b_all_around
noncomputable def b_means_none_1 : S.Env → Out :=
  mIf (tE (eOp gEq (eVar 1) (eVar 2))) (mRet (eC (.bl false))) mNil
noncomputable def b_means_none : S.Env → Out :=
  mSeq (mFor ([0] ++ ([0] ++ [])) (iZip (eVar 0) (eFn m_all_around (aCons (eVar 0) aNil))) (gTup 2 (gCons (gName 1) (gCons (gName 2) gNil))) b_means_none_1)
  (mRet (eC (.bl true)))
noncomputable def m_means_none : List D → RD := mFn 1 3 b_means_none
noncomputable def b_more_due : S.Env → Out :=
  mSeq (mIf (tE (eOp gEq (eVar 0) (eC (.int (-2))))) (mRet (eC (.int 1))) mNil)
  (mSeq (mIf (tE (eOp gEq (eVar 0) (eC (.int (-1))))) (mRet (eC (.int 0))) mNil)
  (mRet (eUn gNeg (eC (.int 1)))))
noncomputable def m_more_due : List D → RD := mFn 1 1 b_more_due
noncomputable def b_part_end_1 : S.Env → Out :=
  mSeq (mAug 2 (eFn m_more_due (aCons (eOp gIx (eVar 0) (eVar 3)) aNil)))
  (mAug 3 (eC (.int 1)))
noncomputable def b_part_end : S.Env → Out :=
  mSeq (mSet 2 [] (eC (.int 1)))
  (mSeq (mSet 3 [1] (eVar 1))
  (mSeq (mWhile (tE (eOp gGt (eVar 2) (eC (.int 0)))) b_part_end_1)
  (mRetV 3)))
noncomputable def m_part_end : List D → RD := mFn 2 4 b_part_end
noncomputable def b_taker_of : S.Env → Out :=
  mRet (eSl (eVar 0) (oSome (eOp gAdd (eVar 1) (eC (.int 2)))) (oSome (eFn m_part_end (aCons (eVar 0) (aCons (eOp gAdd (eVar 1) (eC (.int 2))) aNil)))))
noncomputable def m_taker_of : List D → RD := mFn 2 2 b_taker_of
noncomputable def b_is_opening : S.Env → Out :=
  mSeq (mIf (tOr (tE (eOp gNe (eOp gIx (eVar 0) (eVar 1)) (eC (.int (-1))))) (tE (eOp gNe (eOp gIx (eVar 0) (eOp gAdd (eVar 1) (eC (.int 1)))) (eC (.int (-2)))))) (mRet (eC (.bl false))) mNil)
  (mSeq (mSet 2 ([0] ++ ([1] ++ [])) (eFn m_taker_of (aCons (eVar 0) (aCons (eVar 1) aNil))))
  (mRet (eAnd (eOp gEq (eOp gIx (eVar 0) (eOp gAdd (eOp gAdd (eVar 1) (eC (.int 2))) (eFn fLen (aCons (eVar 2) aNil)))) (eC (.int 0))) (eFn m_means_none (aCons (eVar 2) aNil)))))
noncomputable def m_is_opening : List D → RD := mFn 2 3 b_is_opening
noncomputable def b_all_openings : S.Env → Out :=
  mRet (eComp [] [1] (iRange1 (eFn fLen (aCons (eVar 0) aNil))) (gName 1) (tE (eFn m_is_opening (aCons (eVar 0) (aCons (eVar 1) aNil)))) (eVar 1))
noncomputable def m_all_openings : List D → RD := mFn 1 2 b_all_openings
noncomputable def b_is_read_1 : S.Env → Out :=
  mSeq (mIf (tE (eOp gEq (eVar 1) (eC (.int 0)))) (mRet (eC (.bl false))) mNil)
  (mAug 1 (eFn m_more_due (aCons (eVar 2) aNil)))
noncomputable def b_is_read : S.Env → Out :=
  mSeq (mSet 1 [] (eC (.int 1)))
  (mSeq (mFor [0] (iSeq (eVar 0)) (gName 2) b_is_read_1)
  (mRet (eOp gEq (eVar 1) (eC (.int 0)))))
noncomputable def m_is_read : List D → RD := mFn 1 3 b_is_read
noncomputable def b_is_whole : S.Env → Out :=
  mRet (eAnd (eIsi "int" (eVar 0)) (eNot (eIsi "bool" (eVar 0))))
noncomputable def m_is_whole : List D → RD := mFn 1 1 b_is_whole
noncomputable def b_is_term_1 : S.Env → Out :=
  mIf (tOr (tNot (tE (eFn m_is_whole (aCons (eVar 1) aNil)))) (tOr (tE (eOp gLt (eVar 1) (eC (.int (-2))))) (tE (eOp gGt (eVar 1) (eC (.int (9999))))))) (mRet (eC (.bl false))) mNil
noncomputable def b_is_term : S.Env → Out :=
  mSeq (mIf (tOr (tNot (tE (eIsi "tuple" (eVar 0)))) (tOr (tE (eOp gEq (eFn fLen (aCons (eVar 0) aNil)) (eC (.int 0)))) (tE (eOp gGt (eFn fLen (aCons (eVar 0) aNil)) (eC (.int (20000))))))) (mRet (eC (.bl false))) mNil)
  (mSeq (mFor [0] (iSeq (eVar 0)) (gName 1) b_is_term_1)
  (mRet (eFn m_is_read (aCons (eVar 0) aNil))))
noncomputable def m_is_term : List D → RD := mFn 1 2 b_is_term
noncomputable def b_look_term : S.Env → Out :=
  mIf (tNot (tE (eFn m_is_term (aCons (eVar 0) aNil)))) (mRaise "NoTerm" none) mNil
noncomputable def m_look_term : List D → RD := mFn 1 1 b_look_term
noncomputable def b_look_small : S.Env → Out :=
  mSeq (mDrop (eFn m_look_term (aCons (eVar 0) aNil)))
  (mIf (tE (eOp gGt (eFn fLen (aCons (eVar 0) aNil)) (eC (.int (200))))) (mRaise "NoSize" none) mNil)
noncomputable def m_look_small : List D → RD := mFn 1 1 b_look_small
noncomputable def b_openings : S.Env → Out :=
  mSeq (mDrop (eFn m_look_small (aCons (eVar 0) aNil)))
  (mRet (eFn m_all_openings (aCons (eVar 0) aNil)))
noncomputable def m_openings : List D → RD := mFn 1 1 b_openings
noncomputable def b_look_place : S.Env → Out :=
  mIf (tOr (tNot (tE (eFn m_is_whole (aCons (eVar 0) aNil)))) (tOr (tE (eOp gLt (eVar 0) (eC (.int 0)))) (tE (eOp gGe (eVar 0) (eFn fLen (aCons (eVar 1) aNil)))))) (mRaise "NoPlace" none) mNil
noncomputable def m_look_place : List D → RD := mFn 2 2 b_look_place
noncomputable def b_look_opening : S.Env → Out :=
  mSeq (mDrop (eFn m_look_place (aCons (eVar 1) (aCons (eVar 0) aNil))))
  (mIf (tNot (tE (eFn m_is_opening (aCons (eVar 0) (aCons (eVar 1) aNil))))) (mRaise "NoOpening" none) mNil)
noncomputable def m_look_opening : List D → RD := mFn 2 2 b_look_opening
noncomputable def b_moved_by_1 : S.Env → Out :=
  mSeq (mIf (tE (eOp gGe (eVar 4) (eOp gAdd (eVar 5) (eVar 2)))) (mSet 4 ([4] ++ [1]) (eOp gAdd (eVar 4) (eVar 1))) mNil)
  (mApp 3 (eVar 4))
noncomputable def b_moved_by : S.Env → Out :=
  mSeq (mSet 3 [] (eLst aNil))
  (mSeq (mFor ([0] ++ ([0] ++ [])) (iZip (eVar 0) (eFn m_all_around (aCons (eVar 0) aNil))) (gTup 2 (gCons (gName 4) (gCons (gName 5) gNil))) b_moved_by_1)
  (mRet (eFn fTuple (aCons (eVar 3) aNil))))
noncomputable def m_moved_by : List D → RD := mFn 3 6 b_moved_by
noncomputable def b_undo_at : S.Env → Out :=
  mSeq (mSet 2 ([0] ++ ([1] ++ [])) (eFn m_taker_of (aCons (eVar 0) (aCons (eVar 1) aNil))))
  (mRet (eOp gAdd (eOp gAdd (eSl (eVar 0) oNone (oSome (eVar 1))) (eFn m_moved_by (aCons (eVar 2) (aCons (eUn gNeg (eC (.int 1))) (aCons (eC (.int 1)) aNil))))) (eSl (eVar 0) (oSome (eOp gAdd (eOp gAdd (eVar 1) (eC (.int 3))) (eFn fLen (aCons (eVar 2) aNil)))) oNone)))
noncomputable def m_undo_at : List D → RD := mFn 2 3 b_undo_at
noncomputable def b_undone : S.Env → Out :=
  mSeq (mDrop (eFn m_look_term (aCons (eVar 0) aNil)))
  (mSeq (mDrop (eFn m_look_opening (aCons (eVar 0) (aCons (eVar 1) aNil))))
  (mRet (eFn m_undo_at (aCons (eVar 0) (aCons (eVar 1) aNil)))))
noncomputable def m_undone : List D → RD := mFn 2 2 b_undone
noncomputable def b_law_right_1 : S.Env → Out :=
  mIf (tE (eOp (gIn false) (eVar 3) (eVar 1))) (mSeq (mSet 4 ([0] ++ ([3] ++ [])) (eFn m_undone (aCons (eVar 0) (aCons (eVar 3) aNil))))
  (mIf (tOr (tNot (tE (eIsi "tuple" (eVar 4)))) (tE (eOp gNe (eVar 4) (eFn m_law_closed_again (aCons (eVar 0) (aCons (eVar 3) aNil)))))) (mRet (eC (.bl false))) mNil)) (mIf (tE (eOp gNe (eHow tblHow (eFn m_undone (aCons (eVar 0) (aCons (eVar 3) aNil)))) (eC (.str "NoOpening")))) (mRet (eC (.bl false))) mNil)
noncomputable def b_law_right : S.Env → Out :=
  mSeq (mSet 1 ([0] ++ []) (eFn m_law_openings (aCons (eVar 0) aNil)))
  (mSeq (mSet 2 ([0] ++ []) (eFn m_openings (aCons (eVar 0) aNil)))
  (mSeq (mIf (tOr (tNot (tE (eIsi "list" (eVar 2)))) (tE (eOp gNe (eVar 2) (eVar 1)))) (mRet (eC (.bl false))) mNil)
  (mSeq (mIf (tNot (tE (eFn fAll (aCons (eComp [2] [3] (iSeq (eVar 2)) (gName 3) tYes (eAnd (eIsi "int" (eVar 3)) (eNot (eIsi "bool" (eVar 3))))) aNil)))) (mRet (eC (.bl false))) mNil)
  (mSeq (mApp 2 (eC (.int 0)))
  (mSeq (mFor [] (iRange1 (eFn fLen (aCons (eVar 0) aNil))) (gName 3) b_law_right_1)
  (mRet (eOp gEq (eFn m_openings (aCons (eVar 0) aNil)) (eVar 1))))))))
noncomputable def m_law_right : List D → RD := mFn 1 5 b_law_right
noncomputable def b_law_term_by_1 : S.Env → Out :=
  mIf (tE (eOp gGt (eFn fLen (aCons (eVar 5) aNil)) (eC (.int 0)))) (mSeq (mSetPop 7 5)
  (mSeq (mSet 8 ((([3] ++ ([4] ++ [])) ++ ([5] ++ [])) ++ []) (eOp gSub (eOp gSub (eOp gSub (eVar 3) (eFn fLen (aCons (eVar 4) aNil))) (eFn fLen (aCons (eVar 5) aNil))) (eC (.int 1))))
  (mSeq (mSet 9 (([] ++ ([] ++ ([] ++ ([] ++ ([] ++ ([] ++ [])))))) ++ ([2] ++ ([] ++ ([] ++ [6])))) (eOp gIx (eLst (aCons (eC (.int 0)) (aCons (eUn gNeg (eC (.int 1))) (aCons (eUn gNeg (eC (.int 2))) (aCons (eUn gNeg (eC (.int 2))) (aCons (eUn gNeg (eC (.int 1))) (aCons (eUn gNeg (eC (.int 2))) aNil))))))) (eOp gIx (eVar 2) (eOp gAdd (eC (.int 1)) (eOp gMul (eC (.int 2)) (eVar 6))))))
  (mIf (tAnd (tE (eOp gEq (eVar 9) (eUn gNeg (eC (.int 1))))) (tE (eOp gGt (eVar 8) (eC (.int 0))))) (mSeq (mApp 4 (eUn gNeg (eC (.int 1))))
  (mApp 5 (eOp gAdd (eVar 7) (eC (.int 1))))) (mIf (tAnd (tE (eOp gEq (eVar 9) (eUn gNeg (eC (.int 2))))) (tE (eOp gGt (eVar 8) (eC (.int 1))))) (mSeq (mApp 4 (eUn gNeg (eC (.int 2))))
  (mAug 5 (eLst (aCons (eVar 7) (aCons (eVar 7) aNil))))) (mApp 4 (eOp gMod (eOp gIx (eVar 2) (eOp gAdd (eC (.int 2)) (eOp gMul (eC (.int 2)) (eVar 6)))) (eOp gAdd (eVar 7) (eC (.int 3)))))))))) mNil
noncomputable def b_law_term_by : S.Env → Out :=
  mSeq (mSet 2 ([0] ++ ((([1] ++ []) ++ (([] ++ ([] ++ [])) ++ [1])) ++ [])) (eFn m_law_numbers (aCons (eVar 0) (aCons (eOp gAdd (eLst (aCons (eVar 1) aNil)) (eOp gMul (eLst (aCons (eC (.int 6)) (aCons (eC (.int 12)) aNil))) (eVar 1))) aNil))))
  (mSeq (mSet 3 (([2] ++ []) ++ []) (eOp gAdd (eOp gIx (eVar 2) (eC (.int 0))) (eC (.int 1))))
  (mSeq (mSet 4 [] (eLst aNil))
  (mSeq (mSet 5 ([] ++ []) (eLst (aCons (eC (.int 0)) aNil)))
  (mSeq (mFor [] (iRange1 (eVar 3)) (gName 6) b_law_term_by_1)
  (mRet (eFn fTuple (aCons (eVar 4) aNil)))))))
noncomputable def m_law_term_by : List D → RD := mFn 2 10 b_law_term_by
noncomputable def b_law_1 : S.Env → Out :=
  mSet 2 ([2] ++ (([3] ++ ([2] ++ [])) ++ [])) (eFn m_law_opened (aCons (eVar 2) (aCons (eOp gMod (eVar 3) (eFn fLen (aCons (eVar 2) aNil))) aNil)))
noncomputable def b_law_2 : S.Env → Out :=
  mIf (tE (eOp gNe (eHow tblHow (eFn m_undone (aCons (eVar 2) (aCons (eVar 7) aNil)))) (eC (.str "NoPlace")))) (mRet (eC (.bl false))) mNil
noncomputable def b_law_3 : S.Env → Out :=
  mSeq (mIf (tE (eOp gNe (eHow tblHow (eFn m_undone (aCons (eVar 8) (aCons (eUn gNeg (eC (.int 1))) aNil)))) (eC (.str "NoTerm")))) (mRet (eC (.bl false))) mNil)
  (mIf (tE (eOp gNe (eHow tblHow (eFn m_openings (aCons (eVar 8) aNil))) (eC (.str "NoTerm")))) (mRet (eC (.bl false))) mNil)
noncomputable def b_law : S.Env → Out :=
  mSeq (mSet 1 (([0] ++ ([] ++ [])) ++ (((([] ++ ([] ++ [])) ++ (([] ++ []) ++ [])) ++ ([] ++ ([] ++ ([] ++ [])))) ++ [])) (eFn m_law_numbers (aCons (eFn m_law_cell_at (aCons (eVar 0) (aCons (eC (.int 1)) aNil))) (aCons (eOp gAdd (eOp gAdd (eLst (aCons (eC (.int 8)) (aCons (eC (.int 6)) aNil))) (eOp gMul (eLst (aCons (eC (.int 200)) aNil)) (eC (.int 5)))) (eLst (aCons (eC (.int 200)) (aCons (eC (.int 5)) (aCons (eC (.int 60)) aNil))))) aNil))))
  (mSeq (mSet 2 (([0] ++ ([] ++ [])) ++ ((([] ++ ([] ++ ([] ++ ([] ++ ([] ++ ([] ++ ([] ++ ([] ++ [])))))))) ++ ([1] ++ [])) ++ [])) (eFn m_law_term_by (aCons (eFn m_law_cell_at (aCons (eVar 0) (aCons (eC (.int 0)) aNil))) (aCons (eOp gIx (eLst (aCons (eC (.int 30)) (aCons (eC (.int 30)) (aCons (eC (.int 30)) (aCons (eC (.int 80)) (aCons (eC (.int 30)) (aCons (eC (.int 30)) (aCons (eC (.int 30)) (aCons (eC (.int 30)) aNil))))))))) (eOp gIx (eVar 1) (eC (.int 0)))) aNil))))
  (mSeq (mIf (tNot (tE (eFn m_law_right (aCons (eVar 2) aNil)))) (mRet (eC (.bl false))) mNil)
  (mSeq (mFor [1] (iSeq (eSl (eVar 1) (oSome (eC (.int 2))) (oSome (eOp gAdd (eC (.int 2)) (eOp gIx (eVar 1) (eC (.int 1))))))) (gName 3) b_law_1)
  (mSeq (mIf (tNot (tE (eFn m_law_right (aCons (eVar 2) aNil)))) (mRet (eC (.bl false))) mNil)
  (mSeq (mSet 4 (([1] ++ []) ++ ([2] ++ [])) (eOp gMod (eOp gIx (eVar 1) (eC (.int 7))) (eFn fLen (aCons (eVar 2) aNil))))
  (mSeq (mSet 5 (([2] ++ (((([2] ++ [4]) ++ []) ++ ([1] ++ [])) ++ [])) ++ [2]) (eOp gAdd (eOp gAdd (eSl (eVar 2) oNone (oSome (eVar 4))) (eTup (aCons (eOp gAdd (eOp gAdd (eOp gIx (eVar 2) (eVar 4)) (eC (.int 1))) (eOp gIx (eVar 1) (eC (.int 8)))) aNil))) (eSl (eVar 2) (oSome (eOp gAdd (eVar 4) (eC (.int 1)))) oNone)))
  (mSeq (mIf (tE (eOp gLt (eOp gIx (eVar 2) (eVar 4)) (eC (.int 0)))) (mSet 5 (([2] ++ ([] ++ [])) ++ [2]) (eOp gAdd (eOp gAdd (eSl (eVar 2) oNone (oSome (eVar 4))) (eTup (aCons (eUn gNeg (eC (.int 1))) aNil))) (eSl (eVar 2) (oSome (eVar 4)) oNone))) mNil)
  (mSeq (mIf (tNot (tE (eFn m_law_right (aCons (eVar 5) aNil)))) (mRet (eC (.bl false))) mNil)
  (mSeq (mSet 6 ([1] ++ []) (eOp gIx (eVar 1) (eC (.int 9))))
  (mSeq (mFor (([] ++ [6]) ++ ((([2] ++ []) ++ [6]) ++ ([] ++ ([] ++ ([] ++ []))))) (iSeq (eTup (aCons (eOp gSub (eUn gNeg (eC (.int 1))) (eVar 6)) (aCons (eOp gAdd (eFn fLen (aCons (eVar 2) aNil)) (eVar 6)) (aCons (eC (.bl true)) (aCons (eC .non) (aCons (eC (.str "1")) aNil))))))) (gName 7) b_law_2)
  (mSeq (mFor (([2] ++ []) ++ (([2] ++ ([] ++ [])) ++ ([] ++ ((([2] ++ ([] ++ [])) ++ [2]) ++ [])))) (iSeq (eTup (aCons (eFn fListU (aCons (eVar 2) aNil)) (aCons (eOp gAdd (eVar 2) (eTup (aCons (eC (.int 0)) aNil))) (aCons (eC .non) (aCons (eOp gAdd (eOp gAdd (eSl (eVar 2) oNone (oSome (eVar 4))) (eTup (aCons (eC (.bl false)) aNil))) (eSl (eVar 2) (oSome (eOp gAdd (eVar 4) (eC (.int 1)))) oNone)) aNil)))))) (gName 8) b_law_3)
  (mSeq (mGreat 9 7 (eOp gAdd (eOp gAdd (eTup (aCons (eUn gNeg (eC (.int 2))) aNil)) (eOp gMul (eTup (aCons (eUn gNeg (eC (.int 1))) aNil)) (eOp gAdd (eOp gSub (eC (.int 197)) (eFn fLen (aCons (eVar 2) aNil))) (eVar 6)))) (eTup (aCons (eUn gNeg (eC (.int 1))) (aCons (eUn gNeg (eC (.int 2))) (aCons (eC (.int 7)) (aCons (eC (.int 0)) aNil)))))) (eVar 2) (tE (eOp gNe (eHow tblHow (eFn m_openings (aCons (eVar 9) aNil))) (eC (.str "NoSize")))) false 7 2)
  (mRet (eAnd (eOp gEq (eFn m_undone (aCons (eVar 9) (aCons (eVar 7) aNil))) (eOp gAdd (eOp gAdd (eSl (eVar 9) oNone (oSome (eVar 7))) (eTup (aCons (eC (.int 6)) aNil))) (eSl (eVar 9) (oSome (eOp gAdd (eVar 7) (eC (.int 4)))) oNone))) (eFn m_law_right (aCons (eVar 2) aNil))))))))))))))))
noncomputable def m_law : List D → RD := mFn 1 10 b_law
noncomputable def bx_law_alone_NoTerm (a : Addr) (dx : Option Addr) : S.Env → Out :=
  mSeq (mSet 1 ([] ++ ([] ++ ([] ++ ([] ++ [])))) (eLst (aCons (eIsP 0 a dx false) (aCons (eIsP 0 a dx false) (aCons (eIsP 0 a dx false) (aCons (eIsP 0 a dx false) aNil))))))
  (mSeq (mAug 1 (eLst (aCons (eIsP 0 a dx false) (aCons (eIsP 0 a dx false) (aCons (eIsP 0 a dx false) (aCons (eIsP 0 a dx false) aNil))))))
  (mSeq (mAug 1 (eLst (aCons (eIsP 0 a dx false) (aCons (eIsP 0 a dx false) (aCons (eIsP 0 a dx false) (aCons (eIsP 0 a dx false) aNil))))))
  (mSeq (mAug 1 (eLst (aCons (eIsP 0 a dx false) (aCons (eIsP 0 a dx true) (aCons (eIsP 0 a dx false) (aCons (eIsP 0 a dx false) aNil))))))
  (mSeq (mAug 1 (eLst (aCons (eIsP 0 a dx false) aNil)))
  (mRet (eAnd (eOp gEq (eLm gCount (eVar 1) (eC (.bl true))) (eC (.int 1))) (eAnd (eIsP 0 a dx true) (eIsP 0 a dx true))))))))
noncomputable def bx_law_alone_NoPlace (a : Addr) (dx : Option Addr) : S.Env → Out :=
  mSeq (mSet 1 ([] ++ ([] ++ ([] ++ ([] ++ [])))) (eLst (aCons (eIsP 0 a dx false) (aCons (eIsP 0 a dx false) (aCons (eIsP 0 a dx false) (aCons (eIsP 0 a dx false) aNil))))))
  (mSeq (mAug 1 (eLst (aCons (eIsP 0 a dx false) (aCons (eIsP 0 a dx false) (aCons (eIsP 0 a dx false) (aCons (eIsP 0 a dx false) aNil))))))
  (mSeq (mAug 1 (eLst (aCons (eIsP 0 a dx true) (aCons (eIsP 0 a dx false) (aCons (eIsP 0 a dx false) (aCons (eIsP 0 a dx false) aNil))))))
  (mSeq (mAug 1 (eLst (aCons (eIsP 0 a dx false) (aCons (eIsP 0 a dx false) (aCons (eIsP 0 a dx false) (aCons (eIsP 0 a dx false) aNil))))))
  (mSeq (mAug 1 (eLst (aCons (eIsP 0 a dx false) aNil)))
  (mRet (eAnd (eOp gEq (eLm gCount (eVar 1) (eC (.bl true))) (eC (.int 1))) (eAnd (eIsP 0 a dx true) (eIsP 0 a dx true))))))))
noncomputable def bx_law_alone_NoSize (a : Addr) (dx : Option Addr) : S.Env → Out :=
  mSeq (mSet 1 ([] ++ ([] ++ ([] ++ ([] ++ [])))) (eLst (aCons (eIsP 0 a dx false) (aCons (eIsP 0 a dx false) (aCons (eIsP 0 a dx false) (aCons (eIsP 0 a dx false) aNil))))))
  (mSeq (mAug 1 (eLst (aCons (eIsP 0 a dx false) (aCons (eIsP 0 a dx false) (aCons (eIsP 0 a dx false) (aCons (eIsP 0 a dx false) aNil))))))
  (mSeq (mAug 1 (eLst (aCons (eIsP 0 a dx false) (aCons (eIsP 0 a dx false) (aCons (eIsP 0 a dx true) (aCons (eIsP 0 a dx false) aNil))))))
  (mSeq (mAug 1 (eLst (aCons (eIsP 0 a dx false) (aCons (eIsP 0 a dx false) (aCons (eIsP 0 a dx false) (aCons (eIsP 0 a dx false) aNil))))))
  (mSeq (mAug 1 (eLst (aCons (eIsP 0 a dx false) aNil)))
  (mRet (eAnd (eOp gEq (eLm gCount (eVar 1) (eC (.bl true))) (eC (.int 1))) (eAnd (eIsP 0 a dx true) (eIsP 0 a dx true))))))))
noncomputable def bx_law_alone_NoOpening (a : Addr) (dx : Option Addr) : S.Env → Out :=
  mSeq (mSet 1 ([] ++ ([] ++ ([] ++ ([] ++ [])))) (eLst (aCons (eIsP 0 a dx false) (aCons (eIsP 0 a dx false) (aCons (eIsP 0 a dx false) (aCons (eIsP 0 a dx false) aNil))))))
  (mSeq (mAug 1 (eLst (aCons (eIsP 0 a dx false) (aCons (eIsP 0 a dx false) (aCons (eIsP 0 a dx false) (aCons (eIsP 0 a dx true) aNil))))))
  (mSeq (mAug 1 (eLst (aCons (eIsP 0 a dx false) (aCons (eIsP 0 a dx false) (aCons (eIsP 0 a dx false) (aCons (eIsP 0 a dx false) aNil))))))
  (mSeq (mAug 1 (eLst (aCons (eIsP 0 a dx false) (aCons (eIsP 0 a dx false) (aCons (eIsP 0 a dx false) (aCons (eIsP 0 a dx false) aNil))))))
  (mSeq (mAug 1 (eLst (aCons (eIsP 0 a dx false) aNil)))
  (mRet (eAnd (eOp gEq (eLm gCount (eVar 1) (eC (.bl true))) (eC (.int 1))) (eAnd (eIsP 0 a dx true) (eIsP 0 a dx true))))))))
end Law

namespace Law
open PySem PySem.Spec PyProof.Rows L2 S
def okD : D → Bool
  | .raw _ _ _ => false | .scr _ => false | .dct _ => false | _ => true
def isW : D → Bool
  | .int _ => true | _ => false
theorem whole_v {d : D} (h : okD d = true) : m_is_whole [d] = .ok (false, .bl (isW d)) := by
  cases d <;> first | (simp [okD] at h; done) | simp [m_is_whole, b_is_whole, mFn_1, isW]
theorem due_v {n : Int} : m_more_due [.int n] = .ok (false, .int (Trm.dueOf n)) := by
  simp [m_more_due, b_more_due, mFn_1, Trm.dueOf]
  split
  · rfl
  · split <;> rfl
theorem cell_v {ns : List Int} {k : Nat} (hk : k ≤ 1000) : ∃ c, m_law_cell_at [.scr ns, .int k] = .ok (false, .int c) := by
  have hl : Nat.log2 3 + k.log2 < 1000000 := by
    set_option exponentiation.threshold 500 in
    exact lg2 (by decide) (by omega)
  simp [m_law_cell_at, b_law_cell_at, mFn_2]
  split
  · rename_i h
    simp [List.getElem?_eq_getElem h]
  · simp [hl, show Nat.log2 999999937 < 9000 by decide]
theorem mixed_v {c : Int} {k : Nat} (h : k ≤ 1000) : ∃ x, m_law_mixed [.int c, .int k] = .ok (false, .int x) ∧ 0 ≤ x ∧ x < 2 ^ 32 := by
  have hq : k * k ≤ 1000 * 1000 := Nat.mul_le_mul h h
  have e1 : (k : Int) * k = ((k * k : Nat) : Int) := rfl
  have h1 := Int.emod_nonneg c (show (2147483629 : Int) ≠ 0 by decide)
  have h2 := Int.emod_lt_of_pos c (show (0 : Int) < 2147483629 by decide)
  have hl1 : k.log2 + k.log2 < 1000000 := by
    set_option exponentiation.threshold 500 in
    exact lg2 (by omega) (by omega)
  have hl2 : Nat.log2 3 + k.log2 < 1000000 := by
    set_option exponentiation.threshold 500 in
    exact lg2 (by decide) (by omega)
  have hl3 : k.log2 + Nat.log2 10007 < 1000000 := by
    set_option exponentiation.threshold 500 in
    exact lg2 (by omega) (by decide)
  have hl4 : (c % 2147483629 + 1).natAbs.log2 + ((k : Int) * k + 3 * k + 11).natAbs.log2 < 1000000 := by
    set_option exponentiation.threshold 500 in
    exact lg2 (by omega) (by omega)
  have hb : ((c % 2147483629 + 1) * ((k : Int) * k + 3 * k + 11) + k * 10007).natAbs < 18446744073709551616 := by
    have b1 : (k : Int) * k + 3 * k + 11 ≤ 1003011 := by omega
    have b2 : 0 ≤ (k : Int) * k + 3 * k + 11 := by omega
    have b3 : (c % 2147483629 + 1) * ((k : Int) * k + 3 * k + 11) ≤ 2147483629 * 1003011 := Int.mul_le_mul (by omega) b1 b2 (by decide)
    have b4 : 0 ≤ (c % 2147483629 + 1) * ((k : Int) * k + 3 * k + 11) := Int.mul_nonneg (by omega) b2
    omega
  simp [m_law_mixed, b_law_mixed, mFn_2, hl1, hl2, hl3, hl4, hb]
  generalize ((c % 2147483629 + 1) * ((k : Int) * k + 3 * k + 11) + k * 10007) ^ 5 = y
  have h3 := Int.emod_nonneg y (show (2147483647 : Int) ≠ 0 by decide)
  have h4 := Int.emod_lt_of_pos y (show (0 : Int) < 2147483647 by decide)
  simp [show Nat.log2 16 < 9000 by decide, show Nat.log2 2147483647 < 9000 by decide]
  omega
/-- digits below their bases -/
inductive Fits : List Int → List Int → Prop
  | nil : Fits [] []
  | cons {d b : Int} {ds bs : List Int} : 0 ≤ d → d < b → Fits ds bs → Fits (d :: ds) (b :: bs)
theorem Fits.snoc : ∀ {ds bs : List Int} {d b : Int}, Fits ds bs → 0 ≤ d → d < b → Fits (ds ++ [d]) (bs ++ [b])
  | _, _, _, _, .nil, h1, h2 => .cons h1 h2 .nil
  | _, _, _, _, .cons a b r, h1, h2 => .cons a b (r.snoc h1 h2)
theorem Fits.len : ∀ {ds bs : List Int}, Fits ds bs → ds.length = bs.length
  | _, _, .nil => rfl
  | _, _, .cons _ _ r => congrArg (· + 1) r.len
theorem numbers_v {c : Int} {bs : List Int} (hl : bs.length ≤ 1000) (hb : ∀ b ∈ bs, 0 < b ∧ b < 10000) : RetX (m_law_numbers [.int c, IL bs]) (fun fr d => fr = true ∧ ∃ ds, d = IL ds ∧ Fits ds bs) NoX := by
  simp only [m_law_numbers, mFn_2, b_law_numbers]
  refine ret_fn fun R' X' hR hX => ?_
  simp [mapIdx_enum]
  split
  all_goals
    rename_i hc
    refine wp_enum (fun i xs env => ∃ ds done rest x4 x5 x6, env = [some (false, D.int c), some (false, IL bs), some (true, IL ds), some (false, D.int rest), x4, x5, x6] ∧ 0 ≤ rest ∧ Fits ds done ∧ bs = done ++ xs ∧ i = done.length) ⟨[], [], _, _, _, _, rfl, by omega, .nil, rfl, rfl⟩ ?_ ?_
    · rintro N B R'' X'' i x xs env hN hB hR' hX' ⟨ds, done, rest, x4, x5, x6, rfl, h0, h1, h2, h3⟩
      have hx : 0 < x ∧ x < 10000 := hb x (by rw [h2]; simp)
      have hlen := congrArg List.length h2
      have hfl := h1.len
      simp at hlen
      obtain ⟨m, hm, hm0, hm1⟩ := mixed_v (c := c) (k := i) (by omega)
      refine ⟨_, by simp; rfl, ?_⟩
      have key : ∀ n : Int, Fits (ds ++ [n % x]) (done ++ [x]) := fun n => h1.snoc (Int.emod_nonneg _ (by omega)) (Int.emod_lt_of_pos _ hx.1)
      have hlog : x.natAbs.log2 < 9000 := by have := lg (n := x.natAbs) (m := 101) (by omega) (by decide); omega
      have hds : ds.length < 16777216 := by omega
      have hm3 : m.natAbs < 18446744073709551616 := by omega
      have hx7 : x < 10000000 := by omega
      simp [b_law_numbers_1, hm, hx.1, hlog, hds, hm3, hx7]
      split
      · exact hN _ ⟨_, _, _, _, _, _, rfl, Int.ediv_nonneg h0 (by omega), key _, by simp [h2], by simp [h3]⟩
      · exact hN _ ⟨_, _, _, _, _, _, rfl, h0, key _, by simp [h2], by simp [h3]⟩
    · rintro i env ⟨ds, done, rest, x4, x5, x6, rfl, h0, h1, h2, h3⟩
      simp at h2 ⊢
      subst h2
      exact hR _ _ ⟨rfl, ds, rfl, h1⟩
theorem iR1_e {m : S.Env → RD} {env : S.Env} {a : Int} {fr : Bool} {n : Nat} (h : m env = .ok (fr, .int a)) (ha : -1000000 ≤ a) (ha2 : a ≤ 1000000) (e : a.toNat = n) : iRange1 m env = .ok (rangeI 0 n) := by
  unfold iRange1
  rw [h, Rs.bind_ok]
  have c1 : -(2 ^ 62) ≤ a := by omega
  have c2 : a < 2 ^ 62 := by omega
  dsimp only
  rw [if_pos ⟨c1, c2⟩, e]
def okN : D → Bool
  | .int n => decide (-2 ≤ n) && decide (n ≤ 9999) | _ => false
def rdD : Int → List D → Bool
  | due, [] => decide (due = 0)
  | due, .int n :: r => if due = 0 then false else rdD (due + Trm.dueOf n) r
  | _, _ :: _ => false
theorem read_v {xs : List D} (h : ∀ x ∈ xs, okN x = true) : RetX (m_is_read [.tup xs]) (fun fr d => fr = false ∧ d = .bl (rdD 1 xs)) NoX := by
  simp only [m_is_read, mFn_1, b_is_read]
  refine ret_fn fun R' X' hR hX => ?_
  simp
  refine wp_loopD (fun rest env => ∃ due x2 b0, env = [some (b0, .tup xs), some (false, .int due), x2] ∧ rdD due rest = rdD 1 xs ∧ ∀ x ∈ rest, okN x = true) ?_ ?_ ?_
  · exact ⟨1, _, _, rfl, rfl, h⟩
  · rintro N B R'' X'' x rest env hN hB hR' hX' ⟨due, x2, b0, rfl, h1, h2⟩
    refine ⟨_, by simp; rfl, ?_⟩
    have h3 := h2 x (by simp)
    cases x <;> simp [okN] at h3
    rename_i n
    simp [b_is_read_1, due_v]
    simp [rdD] at h1
    split
    · rename_i hd
      subst hd
      simp at h1
      exact hR' _ _ (hR _ _ ⟨rfl, by rw [h1]⟩)
    · rename_i hd
      simp [hd] at h1
      exact hN _ ⟨_, _, _, rfl, h1, fun x hx => h2 x (by simp [hx])⟩
  · rintro env ⟨due, x2, b0, rfl, h1, h2⟩
    simp
    exact hR _ _ ⟨rfl, by rw [← h1]; rfl⟩
def isT (xs : List D) : Bool := decide (xs ≠ [] ∧ xs.length ≤ 20000) && (xs.all okN && rdD 1 xs)
theorem is_term_v {xs : List D} (h : ∀ x ∈ xs, okD x = true) : RetX (m_is_term [.tup xs]) (fun fr d => fr = false ∧ d = .bl (isT xs)) NoX := by
  simp only [m_is_term, mFn_1, b_is_term]
  refine ret_fn fun R' X' hR hX => ?_
  simp
  split
  · rename_i hc
    refine hR _ _ ⟨rfl, ?_⟩
    unfold isT
    rw [decide_eq_false (fun z => by rcases hc with hc | hc; exact z.1 hc; omega)]; rfl
  · rename_i hc
    have hc2 : xs ≠ [] ∧ xs.length ≤ 20000 := ⟨fun z => hc (.inl z), Nat.le_of_not_lt fun z => hc (.inr (by omega))⟩
    refine wp_loopD (fun rest env => ∃ x1 b0, env = [some (b0, .tup xs), x1] ∧ xs.all okN = rest.all okN ∧ ∀ x ∈ rest, okD x = true) ?_ ?_ ?_
    · exact ⟨_, _, rfl, rfl, h⟩
    · rintro N B R'' X'' x rest env hN hB hR' hX' ⟨x1, b0, rfl, h1, h2⟩
      refine ⟨_, by simp; rfl, ?_⟩
      simp [b_is_term_1, whole_v (h2 x (by simp))]
      by_cases hx : isW x = true
      · cases x <;> simp [isW] at hx
        rename_i n
        simp [isW]
        split
        · rename_i hn
          refine hR' _ _ (hR _ _ ⟨rfl, ?_⟩)
          have : okN (.int n) = false := by simp [okN]; omega
          simp [isT, h1, this]
        · rename_i hn
          have : okN (.int n) = true := by simp [okN]; omega
          exact hN _ ⟨_, _, rfl, by rw [h1]; simp [this], fun x hx => h2 x (by simp [hx])⟩
      · simp [hx]
        refine hR' _ _ (hR _ _ ⟨rfl, ?_⟩)
        have : okN x = false := by cases x <;> simp [isW] at hx <;> rfl
        simp [isT, h1, this]
    · rintro env ⟨x1, b0, rfl, h1, h2⟩
      simp at h1
      obtain ⟨fr, d, e, rfl, rfl⟩ := (read_v h1).ok
      simp [e]
      refine hR _ _ ⟨rfl, ?_⟩
      have : xs.all okN = true := by simpa using h1
      simp [isT, this, hc2]
theorem rdD_ints : ∀ (ns : List Int) (due : Int), rdD due (ns.map D.int) = Trm.rd due ns
  | [], _ => rfl
  | n :: ns, due => by
    show (if due = 0 then false else rdD (due + Trm.dueOf n) (ns.map D.int)) = _
    rw [rdD_ints]; rfl
theorem isT_fl (t : Trm) : isT ((Trm.fl t).map D.int) = decide (Trm.sz t ≤ 20000 ∧ Trm.fit 9999 t) := by
  unfold isT
  rw [rdD_ints, Trm.rd_fl1, Bool.and_true, List.length_map, Trm.fl_len]
  have h1 : List.map D.int (Trm.fl t) ≠ [] := fun z => Trm.fl_ne t (by simpa using z)
  have h2 : ((Trm.fl t).map D.int).all okN = decide (Trm.fit 9999 t) := by
    rw [List.all_map, Bool.eq_iff_iff, List.all_eq_true, decide_eq_true_iff, Trm.fit_iff]
    constructor
    · intro h n hn
      have := h n hn
      simp [okN] at this
      exact this.2
    · intro h n hn
      have h1 := h n hn
      have h2 := Trm.fl_ge hn
      simp [okN]; exact ⟨h2, h1⟩
  rw [h2, Bool.eq_iff_iff]
  simp [h1]
theorem okD_ints {ns : List Int} : ∀ x ∈ ns.map D.int, okD x = true := by
  intro x hx
  simp at hx
  obtain ⟨n, _, rfl⟩ := hx
  rfl
theorem is_term_tm (t : Trm) : m_is_term [IT (Trm.fl t)] = .ok (false, .bl (decide (Trm.sz t ≤ 20000 ∧ Trm.fit 9999 t))) := by
  obtain ⟨fr, d, e, rfl, rfl⟩ := (is_term_v (xs := (Trm.fl t).map D.int) okD_ints).ok
  rw [isT_fl] at e
  exact e
/-- a term that is let by -/
def Ok (t : Trm) : Prop := Trm.sz t ≤ 20000 ∧ Trm.fit 9999 t
instance {t : Trm} : Decidable (Ok t) := inferInstanceAs (Decidable (_ ∧ _))
theorem look_term_tm {t : Trm} (h : Ok t) : m_look_term [IT (Trm.fl t)] = .ok (false, .non) := by
  have e := is_term_tm t
  rw [decide_eq_true (show _ ∧ _ from h)] at e
  simp [m_look_term, mFn_1, b_look_term, e]
/-! the drawn term -/
/-- what is found, and how many turns are around each part that is due, the next one last -/
def Pre (k : Nat) (f w : List Int) : Prop := (∀ n ∈ w, 0 ≤ n) ∧ ∀ us : List Trm, us.length = w.length → (∀ p ∈ us.zip w.reverse, Trm.ob (p.2.toNat + k) p.1) → ∃ t, Trm.ob k t ∧ Trm.fl t = f ++ (us.map Trm.fl).flatten
theorem Pre.start {k : Nat} : Pre k [] [0] := ⟨by simp, fun us h q => by
  match us, h with
  | [u], _ => exact ⟨u, by simpa using q (u, 0) (by simp), by simp⟩⟩
theorem Pre.gift {k : Nat} {f w : List Int} {h : Int} (p : Pre k f (w ++ [h])) : Pre k (f ++ [-2]) (w ++ [h, h]) := by
  refine ⟨fun n hn => p.1 n (by simp at hn ⊢; rcases hn with z | z <;> simp [z]), fun us e q => ?_⟩
  match us, e with
  | a :: b :: us, e =>
    obtain ⟨t, h1, h2⟩ := p.2 (.app a b :: us) (by simp at e ⊢; omega) (fun x hx => by
      simp at hx
      rcases hx with rfl | hx
      · exact ⟨q (a, h) (by simp), q (b, h) (by simp)⟩
      · exact q x (by simp [hx]))
    exact ⟨t, h1, by rw [h2]; simp [Trm.fl]⟩
  | [a], e => simp at e
  | [], e => simp at e
theorem Pre.turn {k : Nat} {f w : List Int} {h : Int} (p : Pre k f (w ++ [h])) : Pre k (f ++ [-1]) (w ++ [h + 1]) := by
  have h0 := p.1 h (by simp)
  refine ⟨fun n hn => ?_, fun us e q => ?_⟩
  · simp at hn
    rcases hn with z | z
    · exact p.1 n (by simp [z])
    · omega
  match us, e with
  | a :: us, e =>
    obtain ⟨t, h1, h2⟩ := p.2 (.lam a :: us) (by simp at e ⊢; omega) (fun x hx => by
      simp at hx
      rcases hx with rfl | hx
      · have := q (a, h + 1) (by simp)
        rw [show (a, h + 1).2.toNat + k = h.toNat + k + 1 from by show (h + 1).toNat + k = _; omega] at this
        exact this
      · exact q x (by simp [hx]))
    exact ⟨t, h1, by rw [h2]; simp [Trm.fl]⟩
  | [], e => simp at e
theorem Pre.step {k : Nat} {f w : List Int} {h : Int} (p : Pre k f (w ++ [h])) : Pre k (f ++ [-2, -1]) (w ++ [h, h + 1]) := by
  have q := p.gift
  rw [show w ++ [h, h] = (w ++ [h]) ++ [h] by simp] at q
  have := q.turn
  simpa using this
theorem Pre.spot {k : Nat} {f w : List Int} {h n : Int} (p : Pre k f (w ++ [h])) (h0 : 0 ≤ n) (h1 : n < h + k) : Pre k (f ++ [n]) w := by
  refine ⟨fun n hn => p.1 n (by simp [hn]), fun us e q => ?_⟩
  obtain ⟨t, h1, h2⟩ := p.2 (.spot n.toNat :: us) (by simp; omega) (fun x hx => by
    simp at hx
    rcases hx with rfl | hx
    · show n.toNat < _
      have : 0 ≤ h := p.1 h (by simp)
      show n.toNat < h.toNat + k
      omega
    · exact q x hx)
  refine ⟨t, h1, ?_⟩
  rw [h2]
  simp [Trm.fl]; omega
theorem Pre.fin {k : Nat} (hk : 0 < k) {f w : List Int} (p : Pre k f w) : ∃ t, Trm.ob k t ∧ Trm.fl t = f ++ List.replicate w.length 0 := by
  obtain ⟨t, h1, h2⟩ := p.2 (List.replicate w.length (.spot 0)) (by simp) (fun x hx => by
    have := List.of_mem_zip hx
    have := List.eq_of_mem_replicate this.1
    rw [this]
    show 0 < _
    omega)
  refine ⟨t, h1, ?_⟩
  rw [h2]
  congr 1
  generalize w.length = m
  induction m with
  | zero => rfl
  | succ m ih => simp [List.replicate_succ, Trm.fl]

end Law

namespace Law
open PySem PySem.Spec PyProof.Rows L2 S
theorem ends_seg : ∀ (t : Trm) (pre suf A X B : List Int) (b0 : Bool) (x2 x3 : Option (Bool × D)), pre.length = A.length → X.length = Trm.sz t →
    ∃ x2', Goes (gName 2) b_all_ends_1 (rangeD ((A.length : Int) + Trm.sz t - 1) (Trm.sz t)) [some (b0, IT (pre ++ Trm.fl t ++ suf)), some (true, IL (A ++ X ++ B)), x2, x3] [some (b0, IT (pre ++ Trm.fl t ++ suf)), some (true, IL (A ++ Trm.ends A.length t ++ B)), x2', x3]
  | .spot n, pre, suf, A, X, B, b0, x2, x3, h1, h2 => by
    match X, h2 with
    | [x], _ =>
    have e0 : rangeD ((A.length : Int) + Trm.sz (.spot n) - 1) (Trm.sz (.spot n)) = [D.int A.length] := by
      rw [show Trm.sz (.spot n) = 1 from rfl, rangeD_succ, rangeD_zero]
      congr 2; omega
    rw [e0]
    refine ⟨some (false, .int A.length), Goes.one rfl ?_⟩
    have g2 : (pre ++ (n : Int) :: suf)[A.length]? = some (n : Int) := get_mid h1
    have g3 : ∀ y, setI (A ++ x :: B) (A.length : Int) y = some (A ++ y :: B) := fun y => setI_mid rfl
    have n1 : ¬ (n : Int) = -1 := by omega
    have n2 : ¬ (n : Int) = -2 := by omega
    simp [Trm.fl, Trm.ends, Trm.sz]
    simp [b_all_ends_1, g2, g3, n1, n2]
  | .lam b, pre, suf, A, X, B, b0, x2, x3, h1, h2 => by
    match X, h2 with
    | x :: X, h2 =>
    have h3 : X.length = Trm.sz b := by simp [Trm.sz] at h2; omega
    obtain ⟨y, G⟩ := ends_seg b (pre ++ [-1]) suf (A ++ [x]) X B b0 x2 x3 (by simp [h1]) h3
    obtain ⟨r, hr⟩ := Trm.ends_head (A.length + 1) b
    have e0 : rangeD ((A.length : Int) + Trm.sz (.lam b) - 1) (Trm.sz (.lam b)) = rangeD (((A ++ [x]).length : Int) + Trm.sz b - 1) (Trm.sz b) ++ [D.int A.length] := by
      rw [show Trm.sz (.lam b) = Trm.sz b + 1 from rfl, rangeD_add]
      congr 1
      · congr 1; simp; omega
      · rw [rangeD_succ, rangeD_zero]
        congr 2; omega
    rw [e0]
    have e1 : pre ++ Trm.fl (.lam b) ++ suf = pre ++ [-1] ++ Trm.fl b ++ suf := by simp [Trm.fl]
    have e2 : A ++ x :: X ++ B = A ++ [x] ++ X ++ B := by simp
    rw [e1, e2]
    refine ⟨some (false, .int A.length), G.trans (Goes.one rfl ?_)⟩
    have hl : (A ++ [x]).length = A.length + 1 := by simp
    rw [hl]
    have g2 : (pre ++ -1 :: (Trm.fl b ++ suf))[A.length]? = some (-1 : Int) := get_mid h1
    have g3 : ∀ x y, setI (A ++ x :: (Trm.ends (A.length + 1) b ++ B)) (A.length : Int) y = some (A ++ y :: (Trm.ends (A.length + 1) b ++ B)) := fun x y => setI_mid rfl
    have g4 : ∀ y, (A ++ y :: (Trm.ends (A.length + 1) b ++ B))[A.length + 1]? = some (((A.length + 1 + Trm.sz b : Nat) : Int)) := fun y => by
      rw [hr, show A ++ y :: (((A.length + 1 + Trm.sz b : Nat) : Int) :: r ++ B) = (A ++ [y]) ++ ((A.length + 1 + Trm.sz b : Nat) : Int) :: (r ++ B) by simp]
      exact get_mid (by simp)
    simp only [Trm.ends, List.append_assoc, List.cons_append, List.nil_append, List.singleton_append]
    simp [b_all_ends_1, g2, g3, g4]
    congr 3; omega
  | .app t u, pre, suf, A, X, B, b0, x2, x3, h1, h2 => by
    match X, h2 with
    | x :: X, h2 =>
    have h3 : X.length = Trm.sz t + Trm.sz u := by simp [Trm.sz] at h2; omega
    have hX : X = X.take (Trm.sz t) ++ X.drop (Trm.sz t) := (List.take_append_drop _ _).symm
    generalize hX1 : X.take (Trm.sz t) = X1 at hX
    generalize hX2 : X.drop (Trm.sz t) = X2 at hX
    have l1 : X1.length = Trm.sz t := by rw [← hX1, List.length_take]; omega
    have l2 : X2.length = Trm.sz u := by rw [← hX2, List.length_drop]; omega
    subst hX
    obtain ⟨y, G1⟩ := ends_seg u (pre ++ [-2] ++ Trm.fl t) suf (A ++ [x] ++ X1) X2 B b0 x2 x3 (by simp [h1, l1]) l2
    obtain ⟨y', G2⟩ := ends_seg t (pre ++ [-2]) (Trm.fl u ++ suf) (A ++ [x]) X1 (Trm.ends (A ++ [x] ++ X1).length u ++ B) b0 y x3 (by simp [h1]) l1
    have hl : (A ++ [x] ++ X1).length = A.length + 1 + Trm.sz t := by simp [l1]; omega
    have hl2 : (A ++ [x]).length = A.length + 1 := by simp
    rw [hl] at G1 G2
    rw [hl2] at G2
    obtain ⟨r, hr⟩ := Trm.ends_head (A.length + 1) t
    obtain ⟨r2, hr2⟩ := Trm.ends_head (A.length + 1 + Trm.sz t) u
    have lr : r.length + 1 = Trm.sz t := by
      have := Trm.ends_len (A.length + 1) t
      rw [hr] at this
      simpa using this
    have e0 : rangeD ((A.length : Int) + Trm.sz (.app t u) - 1) (Trm.sz (.app t u)) = rangeD (((A.length + 1 + Trm.sz t : Nat) : Int) + Trm.sz u - 1) (Trm.sz u) ++ (rangeD (((A.length + 1 : Nat) : Int) + Trm.sz t - 1) (Trm.sz t) ++ [D.int A.length]) := by
      rw [show Trm.sz (.app t u) = Trm.sz u + (Trm.sz t + 1) from by simp only [Trm.sz]; omega, rangeD_add, rangeD_add]
      congr 1
      · congr 1; omega
      · congr 1
        · congr 1; omega
        · rw [rangeD_succ, rangeD_zero]
          congr 2; omega
    rw [e0]
    have e1 : pre ++ Trm.fl (.app t u) ++ suf = pre ++ [-2] ++ Trm.fl t ++ Trm.fl u ++ suf := by simp [Trm.fl]
    have e2 : A ++ x :: (X1 ++ X2) ++ B = A ++ [x] ++ X1 ++ X2 ++ B := by simp
    have e3 : pre ++ [-2] ++ Trm.fl t ++ (Trm.fl u ++ suf) = pre ++ [-2] ++ Trm.fl t ++ Trm.fl u ++ suf := by simp
    have e4 : A ++ [x] ++ X1 ++ (Trm.ends (A.length + 1 + Trm.sz t) u ++ B) = A ++ [x] ++ X1 ++ Trm.ends (A.length + 1 + Trm.sz t) u ++ B := by simp
    rw [e3, e4] at G2
    rw [e1, e2]
    refine ⟨some (false, .int A.length), G1.trans (G2.trans (Goes.one rfl ?_))⟩
    generalize hE2 : Trm.ends (A.length + 1 + Trm.sz t) u = E2 at hr2 ⊢
    generalize hE1 : Trm.ends (A.length + 1) t = E1 at hr ⊢
    have g2 : (pre ++ -2 :: (Trm.fl t ++ (Trm.fl u ++ suf)))[A.length]? = some (-2 : Int) := get_mid h1
    have g3 : ∀ x y, setI (A ++ x :: (E1 ++ (E2 ++ B))) (A.length : Int) y = some (A ++ y :: (E1 ++ (E2 ++ B))) := fun x y => setI_mid rfl
    have g4 : ∀ y, (A ++ y :: (E1 ++ (E2 ++ B)))[A.length + 1]? = some (((A.length + 1 + Trm.sz t : Nat) : Int)) := fun y => by
      rw [hr, show A ++ y :: (((A.length + 1 + Trm.sz t : Nat) : Int) :: r ++ (E2 ++ B)) = (A ++ [y]) ++ ((A.length + 1 + Trm.sz t : Nat) : Int) :: (r ++ (E2 ++ B)) by simp]
      exact get_mid (by simp)
    have g6 : ∀ y, atI (A ++ y :: (E1 ++ (E2 ++ B))) ((A.length : Int) + 1 + Trm.sz t) = some (((A.length + 1 + Trm.sz t + Trm.sz u : Nat) : Int)) := fun y => by
      rw [show (A.length : Int) + 1 + Trm.sz t = ((A.length + 1 + Trm.sz t : Nat) : Int) by omega, S.atI_nat, hr2, show A ++ y :: (E1 ++ (((A.length + 1 + Trm.sz t + Trm.sz u : Nat) : Int) :: r2 ++ B)) = (A ++ [y] ++ E1) ++ ((A.length + 1 + Trm.sz t + Trm.sz u : Nat) : Int) :: (r2 ++ B) by simp]
      exact get_mid (by rw [hr]; simp; omega)
    simp only [Trm.ends, hE1, hE2, List.append_assoc, List.cons_append, List.nil_append, List.singleton_append]
    simp [b_all_ends_1, g2, g3, g4, g6]
    congr 3; omega
theorem all_ends_v (t : Trm) (h : Trm.sz t ≤ 16777216) : m_all_ends [IT (Trm.fl t)] = .ok (true, IL (Trm.ends 0 t)) := by
  obtain ⟨y, G⟩ := ends_seg t [] [] [] (List.replicate (Trm.sz t) 0) [] false none none rfl (by simp)
  have hp := Trm.sz_pos t
  simp only [m_all_ends, mFn_1, b_all_ends]
  simp
  rw [compL_map (f := fun _ => D.int 0) (by intro x _; exact ⟨_, by simp; rfl, rfl, false, by simp, rfl⟩)]
  simp [h, map_const]
  rw [if_pos (by omega)]
  simp at G
  rw [G.done]
  simp
/-! turns around -/
/-- a stack, its last ones that are at most k away -/
def popE (k : Int) (w : List Int) : List Int := (w.reverse.dropWhile fun x => decide (x ≤ k)).reverse
@[simp] theorem popE_nil {k : Int} : popE k [] = [] := rfl
theorem popE_le {k x : Int} {w : List Int} (h : x ≤ k) : popE k (w ++ [x]) = popE k w := by simp [popE, h]
theorem popE_gt {k x : Int} {w : List Int} (h : ¬ x ≤ k) : popE k (w ++ [x]) = w ++ [x] := by simp [popE, h]
theorem popE_all {k : Int} {w : List Int} (h : ∀ x ∈ w, k < x) : popE k w = w := by
  rcases w.eq_nil_or_concat with rfl | ⟨w', x, rfl⟩
  · rfl
  · rw [List.concat_eq_append] at h ⊢
    exact popE_gt (by have := h x (by simp); omega)
theorem popE_len {k : Int} {w : List Int} : (popE k w).length ≤ w.length := by
  unfold popE
  rw [List.length_reverse]
  have := (List.dropWhile_sublist (fun x => decide (x ≤ k)) (l := w.reverse)).length_le
  rwa [List.length_reverse] at this
theorem pop_while {b0 b1 b2 : Bool} {T E : D} {f : List Int} {k : Nat} {x5 : Option (Bool × D)} : ∀ (m : Nat) (w : List Int), w.length = m →
    mWhile (tAnd (tE (eOp gNe (eVar 2) (eLst aNil))) (tE (eOp gLe (eOp gIx (eVar 2) (eUn gNeg (eC (.int 1)))) (eVar 4)))) b_all_around_1 [some (b0, T), some (b1, E), some (true, IL w), some (true, IL f), some (b2, .int k), x5] =
      .nx [some (b0, T), some (b1, E), some (true, IL (popE k w)), some (true, IL f), some (b2, .int k), x5]
  | 0, w, h => by
    match w, h with
    | [], _ => exact mWhile_f (by simp)
  | m + 1, w, h => by
    rcases w.eq_nil_or_concat with rfl | ⟨w', x, rfl⟩
    · simp at h
    · rw [List.concat_eq_append] at h ⊢
      by_cases hx : x ≤ k
      · rw [popE_le hx, ← pop_while m w' (by simp at h; omega)]
        exact mWhile_t (by simp [S.atI_last, hx]) (by simp [b_all_around_1])
      · rw [popE_gt hx]
        exact mWhile_f (by simp [S.atI_last, hx])
theorem around_seg : ∀ (t : Trm) (d i : Nat) (T : D) (A B W W' F : List Int) (b0 b1 : Bool) (x4 x5 : Option (Bool × D)), A.length = i → popE i W = W' → W'.length = d → (∀ x ∈ W', (i : Int) + Trm.sz t ≤ x) → F.length + Trm.sz t ≤ 16777216 → W.length + Trm.sz t ≤ 16777216 →
    ∃ W2 x4' x5', popE ((i + Trm.sz t : Nat) : Int) W2 = popE ((i + Trm.sz t : Nat) : Int) W' ∧ W2.length ≤ W.length + Trm.sz t ∧
      Goes (gTup 2 (gCons (gName 4) (gCons (gName 5) gNil))) b_all_around_2 (enumD D.int i (Trm.fl t)) [some (b0, T), some (b1, IL (A ++ Trm.ends i t ++ B)), some (true, IL W), some (true, IL F), x4, x5]
        [some (b0, T), some (b1, IL (A ++ Trm.ends i t ++ B)), some (true, IL W2), some (true, IL (F ++ Trm.arounds d t)), x4', x5']
  | .spot n, d, i, T, A, B, W, W', F, b0, b1, x4, x5, hA, hW, hd, hx, hF, hl => by
    have n1 : ¬ (n : Int) = -1 := by omega
    have hF' : F.length < 16777216 := by simp [Trm.sz] at hF; omega
    refine ⟨W', some (false, .int i), some (false, .int n), rfl, ?_, Goes.one rfl ?_⟩
    · rw [← hW]; exact Nat.le_trans popE_len (by omega)
    · generalize A ++ Trm.ends i (.spot n) ++ B = E
      have e := pop_while (b0 := b0) (b1 := b1) (b2 := false) (T := T) (E := IL E) (f := F) (k := i) (x5 := some (false, .int n)) _ W rfl
      rw [hW] at e
      simp [b_all_around_2, e, n1, hF', hd, Trm.arounds]
  | .lam b, d, i, T, A, B, W, W', F, b0, b1, x4, x5, hA, hW, hd, hx, hF, hl => by
    have hb := Trm.sz_pos b
    have hs : Trm.sz (.lam b) = Trm.sz b + 1 := rfl
    rw [hs] at hF hl hx
    have hF' : F.length < 16777216 := by omega
    have hWl : W'.length ≤ W.length := by rw [← hW]; exact popE_len
    have hW' : W'.length < 16777216 := by omega
    have ee : A ++ Trm.ends i (.lam b) ++ B = (A ++ [((i + (Trm.sz b + 1) : Nat) : Int)]) ++ Trm.ends (i + 1) b ++ B := by simp [Trm.ends]
    rw [ee]
    obtain ⟨W2, y4, y5, q1, q2, G⟩ := around_seg b (d + 1) (i + 1) T (A ++ [((i + (Trm.sz b + 1) : Nat) : Int)]) B (W' ++ [((i + (Trm.sz b + 1) : Nat) : Int)]) (W' ++ [((i + (Trm.sz b + 1) : Nat) : Int)]) (F ++ [(d : Int)]) b0 b1 (some (false, .int i)) (some (false, .int (-1)))
      (by simp [hA]) (popE_gt (by omega)) (by simp [hd]) (fun x m => by
        simp at m
        rcases m with m | rfl
        · have := hx x m; omega
        · omega) (by simp; omega) (by simp; omega)
    refine ⟨W2, y4, y5, ?_, ?_, ?_⟩
    · rw [hs, show i + (Trm.sz b + 1) = i + 1 + Trm.sz b by omega, q1, popE_le (by omega)]
    · simp at q2; omega
    · show Goes _ _ (D.tup [.int i, .int (-1)] :: enumD D.int (i + 1) (Trm.fl b)) _ _
      have g : (A ++ [((i + (Trm.sz b + 1) : Nat) : Int)] ++ Trm.ends (i + 1) b ++ B)[i]? = some ((i + (Trm.sz b + 1) : Nat) : Int) := by
        rw [List.append_assoc, List.append_assoc]; exact get_mid hA
      generalize A ++ [((i + (Trm.sz b + 1) : Nat) : Int)] ++ Trm.ends (i + 1) b ++ B = E at G g ⊢
      generalize ((i + (Trm.sz b + 1) : Nat) : Int) = y at G g ⊢
      have e := pop_while (b0 := b0) (b1 := b1) (b2 := false) (T := T) (E := IL E) (f := F) (k := i) (x5 := some (false, .int (-1))) _ W rfl
      rw [hW] at e
      refine Goes.cons rfl ?_ (by simpa [Trm.arounds] using G)
      have hd' : d < 16777216 := by omega
      simp [b_all_around_2, e, hF', hd, g, hd']
  | .app t u, d, i, T, A, B, W, W', F, b0, b1, x4, x5, hA, hW, hd, hx, hF, hl => by
    have ht := Trm.sz_pos t
    have hu := Trm.sz_pos u
    have hs : Trm.sz (.app t u) = Trm.sz t + Trm.sz u + 1 := rfl
    rw [hs] at hF hl hx
    have hF' : F.length < 16777216 := by omega
    have hWl : W'.length ≤ W.length := by rw [← hW]; exact popE_len
    have e1 : A ++ Trm.ends i (.app t u) ++ B = (A ++ [((i + (Trm.sz t + Trm.sz u + 1) : Nat) : Int)]) ++ Trm.ends (i + 1) t ++ (Trm.ends (i + 1 + Trm.sz t) u ++ B) := by simp [Trm.ends]
    have e2 : A ++ Trm.ends i (.app t u) ++ B = (A ++ [((i + (Trm.sz t + Trm.sz u + 1) : Nat) : Int)] ++ Trm.ends (i + 1) t) ++ Trm.ends (i + 1 + Trm.sz t) u ++ B := by simp [Trm.ends]
    obtain ⟨W2, y4, y5, q1, q2, G⟩ := around_seg t d (i + 1) T (A ++ [((i + (Trm.sz t + Trm.sz u + 1) : Nat) : Int)]) (Trm.ends (i + 1 + Trm.sz t) u ++ B) W' W' (F ++ [(d : Int)]) b0 b1 (some (false, .int i)) (some (false, .int (-2)))
      (by simp [hA]) (popE_all fun x m => by have := hx x m; omega) hd (fun x m => by have := hx x m; omega) (by simp; omega) (by omega)
    rw [popE_all (w := W') (fun x m => by have := hx x m; omega)] at q1
    obtain ⟨W3, z4, z5, p1, p2, G2⟩ := around_seg u d (i + 1 + Trm.sz t) T (A ++ [((i + (Trm.sz t + Trm.sz u + 1) : Nat) : Int)] ++ Trm.ends (i + 1) t) B W2 W' (F ++ [(d : Int)] ++ Trm.arounds d t) b0 b1 y4 y5
      (by simp [hA]; omega) q1 hd (fun x m => by have := hx x m; omega) (by simp; omega) (by omega)
    rw [← e1] at G
    rw [← e2] at G2
    refine ⟨W3, z4, z5, ?_, by omega, ?_⟩
    · rw [hs, show i + (Trm.sz t + Trm.sz u + 1) = i + 1 + Trm.sz t + Trm.sz u by omega, p1]
    · show Goes _ _ (D.tup [.int i, .int (-2)] :: enumD D.int (i + 1) (Trm.fl t ++ Trm.fl u)) _ _
      rw [enumD_app, Trm.fl_len]
      generalize A ++ Trm.ends i (.app t u) ++ B = E at G G2 ⊢
      refine Goes.cons rfl ?_ (G.trans (by simpa [Trm.arounds] using G2))
      have e := pop_while (b0 := b0) (b1 := b1) (b2 := false) (T := T) (E := IL E) (f := F) (k := i) (x5 := some (false, .int (-2))) _ W rfl
      rw [hW] at e
      simp [b_all_around_2, e, hF', hd]
theorem all_around_v (t : Trm) (h : Trm.sz t ≤ 16777216) : m_all_around [IT (Trm.fl t)] = .ok (true, IL (Trm.arounds 0 t)) := by
  obtain ⟨W, y4, y5, _, _, G⟩ := around_seg t 0 0 (IT (Trm.fl t)) [] [] [] [] [] false true none none rfl rfl rfl (by simp) (by simp; omega) (by simp; omega)
  simp only [m_all_around, mFn_1, b_all_around]
  simp [all_ends_v t h, mapIdx_enum]
  simp at G
  rw [show (D.lst [] : D) = IL [] from rfl, G.done]
  simp

end Law

namespace Law
open PySem PySem.Spec PyProof.Rows L2 S
/-! what laws share: digits, turns ahead -/
def lams : Nat → Trm → Trm
  | 0, t => t
  | n + 1, t => .lam (lams n t)
theorem lams_fl (t : Trm) : ∀ n, Trm.fl (lams n t) = List.replicate n (-1) ++ Trm.fl t
  | 0 => rfl
  | n + 1 => by rw [lams, Trm.fl, lams_fl t n, List.replicate_succ, List.cons_append]
theorem lams_sz (t : Trm) : ∀ n, Trm.sz (lams n t) = n + Trm.sz t
  | 0 => by simp [lams]
  | n + 1 => by rw [lams, Trm.sz, lams_sz t n]; omega
theorem lams_fit {m : Nat} {t : Trm} : ∀ n, Trm.fit m t → Trm.fit m (lams n t)
  | 0, h => h
  | n + 1, h => by rw [lams, Trm.fit]; exact lams_fit n h
theorem lams_ob {k : Nat} {t : Trm} : ∀ n, Trm.ob (k + n) t → Trm.ob k (lams n t)
  | 0, h => h
  | n + 1, h => by
    rw [lams, Trm.ob]
    exact lams_ob n (by rw [show k + 1 + n = k + (n + 1) by omega]; exact h)
theorem Fits.inv {ds bs : List Int} {b : Int} (h : Fits ds (b :: bs)) : ∃ d r, ds = d :: r ∧ 0 ≤ d ∧ d < b ∧ Fits r bs := by
  cases h with
  | cons h1 h2 h3 => exact ⟨_, _, rfl, h1, h2, h3⟩
theorem Fits.get : ∀ {ds bs : List Int}, Fits ds bs → ∀ d ∈ ds, 0 ≤ d
  | _, _, .nil => by simp
  | _, _, .cons h _ r => fun d hd => (List.mem_cons.mp hd).elim (fun e => e ▸ h) (r.get d)
theorem Fits.at : ∀ {ds bs : List Int} (i : Nat), Fits ds bs → ∀ b, bs[i]? = some b → ∃ d, ds[i]? = some d ∧ 0 ≤ d ∧ d < b
  | _, _, _, .nil, b, h => by simp at h
  | _, _, 0, .cons h1 h2 _, b, h => by simp at h; subst h; exact ⟨_, rfl, h1, h2⟩
  | _, _, i + 1, .cons _ _ r, b, h => by simpa using r.at i b (by simpa using h)
theorem Ok.of {t : Trm} {k : Nat} (h : Trm.ob k t) (h1 : Trm.sz t ≤ 20000) (h2 : k + Trm.sz t ≤ 10001) : Ok t := ⟨h1, Trm.ob_fit h (by omega)⟩

end Law

namespace Law
open PySem PySem.Spec PyProof.Rows L2 S
/-! the law's own terms, by numbers -/
theorem bases_at {n : Nat} : ∀ {i : Nat}, i < n → (List.replicate n [(6 : Int), 12]).flatten[2 * i]? = some 6 ∧ (List.replicate n [(6 : Int), 12]).flatten[2 * i + 1]? = some 12 := by
  induction n with
  | zero => intro i h; omega
  | succ n ih =>
    intro i h
    rw [List.replicate_succ, List.flatten_cons]
    cases i with
    | zero => exact ⟨rfl, rfl⟩
    | succ i =>
      have := ih (i := i) (by omega)
      rw [show 2 * (i + 1) = 2 * i + 2 by omega]
      exact this
theorem bases_len (n : Nat) : (List.replicate n [(6 : Int), 12]).flatten.length = 2 * n := by
  induction n with
  | zero => rfl
  | succ n ih => rw [List.replicate_succ, List.flatten_cons, List.length_append, ih]; simp; omega
theorem bases_mem {n : Nat} {b : Int} (h : b ∈ (List.replicate n [(6 : Int), 12]).flatten) : b = 6 ∨ b = 12 := by
  rw [List.mem_flatten] at h
  obtain ⟨l, h1, h2⟩ := h
  rw [List.eq_of_mem_replicate h1] at h2
  simpa using h2
theorem term_by_v {c : Int} {most : Nat} (hm : 1 ≤ most) (hm2 : most ≤ 400) : RetX (m_law_term_by [.int c, .int most]) (fun fr d => fr = false ∧ ∃ t : Trm, d = IT (Trm.fl t) ∧ Trm.ob 3 t ∧ Trm.sz t ≤ most) NoX := by
  obtain ⟨BS, hBS⟩ : ∃ B, (List.replicate most [(6 : Int), 12]).flatten = B := ⟨_, rfl⟩
  have hBl : BS.length = 2 * most := by rw [← hBS, bases_len]
  obtain ⟨_, _, hn, rfl, ns, rfl, hf⟩ := (numbers_v (c := c) (bs := (most : Int) :: BS) (by simp; omega) (by
    intro b hb
    rw [List.mem_cons] at hb
    rcases hb with rfl | hb
    · omega
    · rw [← hBS] at hb
      have := bases_mem hb
      omega)).ok
  obtain ⟨s, hs1, hs2, hs3⟩ := hf.at 0 _ rfl
  have hat : ∀ i, i < most → ∃ a b, ns[1 + 2 * i]? = some a ∧ ns[2 + 2 * i]? = some b ∧ 0 ≤ a ∧ a < 6 ∧ 0 ≤ b := by
    intro i hi
    have hb := bases_at hi
    rw [hBS] at hb
    obtain ⟨a, a1, a2, a3⟩ := hf.at (1 + 2 * i) 6 (by rw [show 1 + 2 * i = 2 * i + 1 by omega, List.getElem?_cons_succ]; exact hb.1)
    obtain ⟨b, b1, b2, b3⟩ := hf.at (2 + 2 * i) 12 (by rw [show 2 + 2 * i = 2 * i + 1 + 1 by omega, List.getElem?_cons_succ]; exact hb.2)
    exact ⟨a, b, a1, b1, a2, a3, b2⟩
  simp only [m_law_term_by, mFn_2, b_law_term_by]
  refine ret_fn fun R' X' hR hX => ?_
  have l1 : most ≤ 16777216 := by omega
  have hg : gMul (IL [6, 12]) (.int (most : Int)) = .ok (true, IL BS) := by
    have l2 : 2 * most ≤ 16777216 := by omega
    have l3 : (most : Int) < 9223372036854775808 := by omega
    rw [gMul_IL, if_pos (by simp; omega)]
    simp [hBS]
  have l2 : 1 + BS.length ≤ 16777216 := by omega
  refine wp_nx1 (by simp [hg, l2, hn]; rfl) ?_
  refine wp_nx1 (by simp [hs1]; rfl) ?_
  refine wp_nx1 (by simp; rfl) ?_
  refine wp_nx1 (by simp; rfl) ?_
  rw [mSeq_ap, mFor_ap, iR1_e (a := s + 1) (fr := false) (n := (s + 1).toNat) (by simp) (by omega) (by omega) rfl, forK_ok]
  refine wp_range (fun i n env => 0 ≤ i ∧ i + n = s + 1 ∧ ∃ (f w : List Int) (x6 x7 x8 x9 : Option (Bool × D)), env = [some (false, .int c), some (false, .int most), some (true, IL ns), some (false, .int (s + 1)), some (true, IL f), some (true, IL w), x6, x7, x8, x9] ∧
    Pre 3 f w ∧ ((f.length : Int) + w.length ≤ s + 1) ∧ (w = [] ∨ (f.length : Int) = i)) ?_ ?_ ?_
  · exact ⟨by omega, by omega, [], [0], _, _, _, _, rfl, Pre.start, by simp; omega, .inr rfl⟩
  · rintro N B R'' X'' i n env hN hB hR' hX' ⟨hi, hin, f, w, x6, x7, x8, x9, rfl, h1, h2, h3⟩
    obtain ⟨i, rfl⟩ := Int.eq_ofNat_of_zero_le hi
    refine ⟨_, by simp; rfl, ?_⟩
    rcases w.eq_nil_or_concat with rfl | ⟨w', h, rfl⟩
    · simp [b_law_term_by_1]
      exact hN _ ⟨by omega, by omega, f, [], _, _, _, _, rfl, h1, h2, .inl rfl⟩
    · rw [List.concat_eq_append] at h1 h2 h3 ⊢
      simp at h2 h3
      obtain ⟨a, b, ha, hb, ha1, ha2, hb1⟩ := hat i (by omega)
      have a0 := h1.1 h (by simp)
      have a3 : f.length < 16777216 := by omega
      have a5 : w'.length + 2 ≤ 16777216 := by omega
      have a6 : w'.length < 16777216 := by omega
      have a7 : 0 < h + 3 := by omega
      have hl : Nat.log2 2 + i.log2 < 1000000 := by
        set_option exponentiation.threshold 500 in
        exact lg2 (by decide) (by omega)
      have ga : atI ns (1 + 2 * (i : Int)) = some a := by rw [show 1 + 2 * (i : Int) = ((1 + 2 * i : Nat) : Int) by omega, S.atI_nat]; exact ha
      have gb : atI ns (2 + 2 * (i : Int)) = some b := by rw [show 2 + 2 * (i : Int) = ((2 + 2 * i : Nat) : Int) by omega, S.atI_nat]; exact hb
      have key : ∀ f2 w2 x7 x8 x9, Pre 3 (f ++ f2) (w' ++ w2) → f2.length = 1 → (f.length : Int) + 1 + w'.length + w2.length ≤ s + 1 → N [some (false, .int c), some (false, .int most), some (true, IL ns), some (false, .int (s + 1)), some (true, IL (f ++ f2)), some (true, IL (w' ++ w2)), some (false, .int (i : Int)), x7, x8, x9] := fun f2 w2 x7 x8 x9 b1 b2 b3 =>
        hN _ ⟨by omega, by omega, f ++ f2, w' ++ w2, _, _, _, _, rfl, b1, by simp; omega, .inr (by simp; omega)⟩
      have hi2 : Nat.log2 2 + i.log2 < 1000000 := hl
      have hcase : a = 0 ∨ a = 1 ∨ a = 2 ∨ a = 3 ∨ a = 4 ∨ a = 5 := by omega
      have hd1 := Int.emod_nonneg b (show h + 3 ≠ 0 by omega)
      have hd2 := Int.emod_lt_of_pos b a7
      have hspot : N [some (false, .int c), some (false, .int most), some (true, IL ns), some (false, .int (s + 1)), some (true, IL (f ++ [b % (h + 3)])), some (true, IL w'), some (false, .int (i : Int)), some (false, D.int h), some (false, D.int (s + 1 - ↑f.length - ↑w'.length - 1)), some (false, D.int 0)] ∧ N [some (false, .int c), some (false, .int most), some (true, IL ns), some (false, .int (s + 1)), some (true, IL (f ++ [b % (h + 3)])), some (true, IL w'), some (false, .int (i : Int)), some (false, D.int h), some (false, D.int (s + 1 - ↑f.length - ↑w'.length - 1)), some (false, D.int (-1))] ∧ N [some (false, .int c), some (false, .int most), some (true, IL ns), some (false, .int (s + 1)), some (true, IL (f ++ [b % (h + 3)])), some (true, IL w'), some (false, .int (i : Int)), some (false, D.int h), some (false, D.int (s + 1 - ↑f.length - ↑w'.length - 1)), some (false, D.int (-2))] := by
        have q := h1.spot hd1 hd2
        have z := fun x7 x8 x9 => key [b % (h + 3)] [] x7 x8 x9 (by simpa using q) rfl (by simp; omega)
        simp only [List.append_nil] at z
        exact ⟨z _ _ _, z _ _ _, z _ _ _⟩
      have hlam : ∀ x7 x8 x9, 1 < s + 1 - ↑f.length - ↑w'.length → N [some (false, .int c), some (false, .int most), some (true, IL ns), some (false, .int (s + 1)), some (true, IL (f ++ [-1])), some (true, IL (w' ++ [h + 1])), some (false, .int (i : Int)), x7, x8, x9] := fun x7 x8 x9 hs => key [-1] [h + 1] x7 x8 x9 h1.turn rfl (by simp; omega)
      have happ : ∀ x7 x8 x9, 1 < s + 1 - ↑f.length - ↑w'.length - 1 → N [some (false, .int c), some (false, .int most), some (true, IL ns), some (false, .int (s + 1)), some (true, IL (f ++ [-2])), some (true, IL (w' ++ [h, h])), some (false, .int (i : Int)), x7, x8, x9] := fun x7 x8 x9 hs => key [-2] [h, h] x7 x8 x9 h1.gift rfl (by simp; omega)
      rcases hcase with rfl | rfl | rfl | rfl | rfl | rfl
      · simp [b_law_term_by_1, ga, gb, hi2, a3, a5, a6, a7]
        exact hspot.1
      · simp [b_law_term_by_1, ga, gb, hi2, a3, a5, a6, a7]
        split
        · rename_i hs
          exact hlam _ _ _ hs
        · exact hspot.2.1
      · simp [b_law_term_by_1, ga, gb, hi2, a3, a5, a6, a7]
        split
        · rename_i hs
          exact happ _ _ _ hs
        · exact hspot.2.2
      · simp [b_law_term_by_1, ga, gb, hi2, a3, a5, a6, a7]
        split
        · rename_i hs
          exact happ _ _ _ hs
        · exact hspot.2.2
      · simp [b_law_term_by_1, ga, gb, hi2, a3, a5, a6, a7]
        split
        · rename_i hs
          exact hlam _ _ _ hs
        · exact hspot.2.1
      · simp [b_law_term_by_1, ga, gb, hi2, a3, a5, a6, a7]
        split
        · rename_i hs
          exact happ _ _ _ hs
        · exact hspot.2.2
  · rintro i env ⟨hi, hin, f, w, x6, x7, x8, x9, rfl, h1, h2, h3⟩
    have hw : w = [] := by
      rcases h3 with h3 | h3
      · exact h3
      · exact List.length_eq_zero_iff.mp (by omega)
    subst hw
    simp
    obtain ⟨t, q1, q2⟩ := h1.fin (by decide)
    simp at q2
    refine hR _ _ ⟨rfl, t, by rw [q2], q1, ?_⟩
    have := congrArg List.length q2
    simp at this
    simp at h2
    omega

end Law

namespace Law
open PySem PySem.Spec PyProof.Rows L2 S
/-! the program's own moving, the part that openings need -/
theorem maxI_fl {t : Trm} {k : Int} : maxI (Trm.fl t) ≤ k ↔ ∀ n ∈ Trm.fl t, n ≤ k := maxI_le_iff (Trm.fl_ne t)
theorem fit_b (t : Trm) : decide (maxI (Trm.fl t) ≤ 9999) = decide (Trm.fit 9999 t) := by
  rw [decide_eq_decide, maxI_fl, Trm.fit_iff]; rfl
theorem moved_by_v (t : Trm) (m l : Nat) (h : Trm.sz t ≤ 1000000) : m_moved_by [IT (Trm.fl t), .int m, .int l] = .ok (false, IT (Trm.fl (Trm.sh m l 0 t))) := by
  have key : RetX (m_moved_by [IT (Trm.fl t), .int m, .int l]) (fun fr d => fr = false ∧ d = IT (((Trm.fl t).zip (Trm.arounds 0 t)).map (Trm.mvN m l))) NoX := by
    simp only [m_moved_by, mFn_3, b_moved_by]
    refine ret_fn fun R' X' hR hX => ?_
    simp [all_around_v t (by omega)]
    refine wp_loop (fun xs env => ∃ (f : List Int) (b0 : Bool) (x4 x5 : Option (Bool × D)), env = [some (b0, IT (Trm.fl t)), some (false, .int m), some (false, .int l), some (true, IL f), x4, x5] ∧ f ++ xs.map (Trm.mvN m l) = ((Trm.fl t).zip (Trm.arounds 0 t)).map (Trm.mvN m l) ∧ f.length + xs.length ≤ 1000000) ?_ ?_ ?_
    · exact ⟨[], _, _, _, rfl, rfl, by simp; omega⟩
    · rintro N B R'' X'' p xs env hN hB hR' hX' ⟨f, b0, x4, x5, rfl, h1, h2⟩
      obtain ⟨n, d⟩ := p
      simp at h2
      refine ⟨_, by simp [P2]; rfl, ?_⟩
      have h3 : f.length < 16777216 := by omega
      simp [b_moved_by_1]
      by_cases hc : d + l ≤ n
      · rw [if_pos hc]
        simp [h3]
        exact hN _ ⟨_, _, _, _, rfl, by rw [← h1]; simp [Trm.mvN, hc], by simp; omega⟩
      · rw [if_neg hc]
        simp [h3]
        exact hN _ ⟨_, _, _, _, rfl, by rw [← h1]; simp [Trm.mvN, hc], by simp; omega⟩
    · rintro env ⟨f, b0, x4, x5, rfl, h1, h2⟩
      simp
      exact hR _ _ ⟨rfl, by rw [← h1]; simp⟩
  obtain ⟨_, _, e, rfl, rfl⟩ := key.ok
  rw [e, Trm.sh_fl]

end Law

namespace Law
open PySem PySem.Spec PyProof.Rows L2 S
/-! the place behind a part, and parts -/
theorem cut_mid {α : Type} {A B C : List α} {i j : Int} (h1 : i = A.length) (h2 : j = (A.length + B.length : Nat)) : cutL (A ++ B ++ C) (some i) (some j) = B := by
  subst h1; subst h2
  rw [cutL_both, List.append_assoc, List.drop_left, Nat.add_sub_cancel_left, List.take_left]
theorem cut_front {α : Type} {A C : List α} {i : Int} (h1 : i = A.length) : cutL (A ++ C) none (some i) = A := by
  subst h1
  rw [cutL_hi, List.take_left]
theorem cut_back {α : Type} {A C : List α} {i : Int} (h1 : i = A.length) : cutL (A ++ C) (some i) none = C := by
  subst h1
  rw [cutL_lo, List.drop_left]
theorem part_run {b0 : Bool} {x1 : Option (Bool × D)} : ∀ (t : Trm) (pre suf : List Int) (k i : Nat), pre.length = i →
    mWhile (tE (eOp gGt (eVar 2) (eC (.int 0)))) b_part_end_1 [some (b0, IT (pre ++ Trm.fl t ++ suf)), x1, some (false, .int ((k + 1 : Nat) : Int)), some (false, .int (i : Int))] =
      mWhile (tE (eOp gGt (eVar 2) (eC (.int 0)))) b_part_end_1 [some (b0, IT (pre ++ Trm.fl t ++ suf)), x1, some (false, .int (k : Int)), some (false, .int ((i + Trm.sz t : Nat) : Int))]
  | .spot n, pre, suf, k, i, h => by
    refine mWhile_t (by simp <;> omega) ?_
    have g : (pre ++ (n : Int) :: suf)[i]? = some (n : Int) := get_mid h
    have d : Trm.dueOf (n : Int) = -1 := by unfold Trm.dueOf; rw [if_neg (by omega), if_neg (by omega)]
    simp [b_part_end_1, Trm.fl, g, due_v, d, Trm.sz]
    omega
  | .lam b, pre, suf, k, i, h => by
    have e : pre ++ Trm.fl (.lam b) ++ suf = pre ++ [-1] ++ Trm.fl b ++ suf := by simp [Trm.fl]
    rw [e, show i + Trm.sz (.lam b) = i + 1 + Trm.sz b by simp [Trm.sz]; omega, ← part_run b (pre ++ [-1]) suf k (i + 1) (by simp [h])]
    refine mWhile_t (by simp <;> omega) ?_
    have g : (pre ++ -1 :: (Trm.fl b ++ suf))[i]? = some (-1 : Int) := get_mid h
    have d : Trm.dueOf (-1) = 0 := rfl
    simp [b_part_end_1, g, due_v, d]
  | .app t u, pre, suf, k, i, h => by
    have e : pre ++ Trm.fl (.app t u) ++ suf = pre ++ [-2] ++ Trm.fl t ++ Trm.fl u ++ suf := by simp [Trm.fl]
    have e1 : pre ++ [-2] ++ Trm.fl t ++ Trm.fl u ++ suf = pre ++ [-2] ++ Trm.fl t ++ (Trm.fl u ++ suf) := by simp
    rw [e, show i + Trm.sz (.app t u) = i + 1 + Trm.sz t + Trm.sz u by simp [Trm.sz]; omega, ← part_run u (pre ++ [-2] ++ Trm.fl t) suf k (i + 1 + Trm.sz t) (by simp [h]; omega), e1, ← part_run t (pre ++ [-2]) (Trm.fl u ++ suf) (k + 1) (i + 1) (by simp [h])]
    refine mWhile_t (by simp <;> omega) ?_
    have g : (pre ++ -2 :: (Trm.fl t ++ (Trm.fl u ++ suf)))[i]? = some (-2 : Int) := get_mid h
    have d : Trm.dueOf (-2) = 1 := rfl
    simp [b_part_end_1, g, due_v, d]
theorem part_end_v (t : Trm) (pre suf : List Int) (i : Nat) (h : pre.length = i) : m_part_end [IT (pre ++ Trm.fl t ++ suf), .int (i : Int)] = .ok (false, .int ((i + Trm.sz t : Nat) : Int)) := by
  have e := part_run (b0 := false) (x1 := some (false, .int (i : Int))) t pre suf 0 i h
  generalize pre ++ Trm.fl t ++ suf = L at e ⊢
  simp only [m_part_end, mFn_2, b_part_end]
  simp at e
  simp [e]
  rw [mWhile_f (by simp)]
  simp
theorem look_place_v {d : D} {xs : List Int} (h : okD d = true) : m_look_place [d, IT xs] = match d with
    | .int n => if 0 ≤ n ∧ n < xs.length then .ok (false, .non) else .ex "NoPlace" none
    | _ => .ex "NoPlace" none := by
  by_cases hw : isW d = true
  · cases d <;> simp [isW] at hw
    rename_i n
    simp [m_look_place, mFn_2, b_look_place, whole_v (d := .int n) rfl, isW]
    by_cases hc : 0 ≤ n ∧ n < xs.length
    · rw [if_neg (by omega), if_pos hc]
    · rw [if_pos (by omega), if_neg hc]
  · have e : m_look_place [d, IT xs] = .ex "NoPlace" none := by
      simp [m_look_place, mFn_2, b_look_place, whole_v h, hw]
    rw [e]
    cases d <;> first | rfl | (simp [isW] at hw)
theorem look_place_y {t : Trm} {p : Nat} (h : p < Trm.sz t) : m_look_place [.int p, IT (Trm.fl t)] = .ok (false, .non) := by
  rw [look_place_v rfl]
  simp; omega

end Law

namespace Law
open PySem PySem.Spec PyProof.Rows L2 S
/-! openings -/
/-- places as numbers -/
def nI (ps : List Nat) : List Int := ps.map fun (k : Nat) => (k : Int)
@[simp] theorem nI_len (ps : List Nat) : (nI ps).length = ps.length := by simp [nI]
/-- no spot stands for the open spot d -/
def noF : Nat → Trm → Bool
  | d, .spot n => !decide (n = d)
  | d, .lam b => noF (d + 1) b
  | d, .app t u => noF d t && noF d u
theorem noF_zip : ∀ (d : Nat) (t : Trm), noF d t = ((Trm.fl t).zip (Trm.arounds d t)).all fun q => !decide (q.1 = q.2)
  | d, .spot n => by
    simp only [noF, Trm.fl, Trm.arounds, List.zip_cons_cons, List.zip_nil_left, List.all_cons, List.all_nil, Bool.and_true]
    by_cases h : n = d
    · have h' : (n : Int) = d := by omega
      simp [h]
    · have h' : ¬ (n : Int) = d := by omega
      simp [h, h']
  | d, .lam b => by
    have h' : ¬ (-1 : Int) = d := by omega
    simp only [noF, Trm.fl, Trm.arounds, List.zip_cons_cons, List.all_cons, noF_zip (d + 1) b, h', decide_false, Bool.not_false, Bool.true_and]
  | d, .app t u => by
    have h' : ¬ (-2 : Int) = d := by omega
    simp only [noF, Trm.fl, Trm.arounds, List.zip_cons_cons, List.all_cons, h', decide_false, Bool.not_false, Bool.true_and]
    rw [List.zip_append (by simp), List.all_append, noF_zip d t, noF_zip d u]
/-- open spots above d are one less -/
def dn : Nat → Trm → Trm
  | d, .spot n => .spot (if d < n then n - 1 else n)
  | d, .lam b => .lam (dn (d + 1) b)
  | d, .app t u => .app (dn d t) (dn d u)
@[simp] theorem dn_sz : ∀ (d : Nat) (t : Trm), Trm.sz (dn d t) = Trm.sz t
  | d, .spot n => rfl
  | d, .lam b => by simp [dn, Trm.sz, dn_sz (d + 1) b]
  | d, .app t u => by simp [dn, Trm.sz, dn_sz d t, dn_sz d u]
theorem dn_fl : ∀ (d : Nat) (t : Trm), Trm.fl (dn d t) = ((Trm.fl t).zip (Trm.arounds d t)).map (Trm.mvN (-1) 1)
  | d, .spot n => by
    simp only [dn, Trm.fl, Trm.arounds, List.zip_cons_cons, List.zip_nil_left, List.map_cons, List.map_nil, Trm.mvN]
    by_cases h : d < n
    · rw [if_pos h, if_pos (by omega)]; congr 1; omega
    · rw [if_neg h, if_neg (by omega)]
  | d, .lam b => by
    simp only [dn, Trm.fl, Trm.arounds, List.zip_cons_cons, List.map_cons, dn_fl (d + 1) b, Trm.mvN]
    rw [if_neg (by omega)]
  | d, .app t u => by
    simp only [dn, Trm.fl, Trm.arounds, List.zip_cons_cons, List.map_cons, Trm.mvN]
    rw [if_neg (by omega), List.zip_append (by simp), List.map_append, dn_fl d t, dn_fl d u]
theorem dn_fit {m : Nat} : ∀ {d : Nat} {t : Trm}, Trm.fit m t → Trm.fit m (dn d t)
  | d, .spot n, h => by
    simp only [dn, Trm.fit] at *
    split <;> omega
  | d, .lam b, h => by
    simp only [dn, Trm.fit] at *
    exact dn_fit h
  | d, .app t u, h => ⟨dn_fit h.1, dn_fit h.2⟩
/-- an opening, and what it is undone to -/
def isEta : Trm → Bool
  | .lam (.app f (.spot 0)) => noF 0 f
  | _ => false
def unE : Trm → Trm
  | .lam (.app f _) => dn 0 f
  | s => s
def und (t : Trm) (p : Nat) : Trm := Trm.rep (unE (Trm.sub t p)) t p
/-- a term opened -/
def opE (s : Trm) : Trm := .lam (.app (Trm.sh 1 0 0 s) (.spot 0))
def opn1 (t : Trm) (p : Nat) : Trm := Trm.rep (opE (Trm.sub t p)) t p
theorem eta_shape {s : Trm} (h : isEta s = true) : ∃ f, s = .lam (.app f (.spot 0)) ∧ noF 0 f = true := by
  match s, h with
  | .lam (.app f (.spot 0)), h => exact ⟨f, rfl, h⟩
theorem und_sz {t : Trm} {p : Nat} (hp : p < Trm.sz t) (h : isEta (Trm.sub t p) = true) : Trm.sz (und t p) + 3 = Trm.sz t := by
  obtain ⟨f, h1, h2⟩ := eta_shape h
  have h3 := Trm.rep_sz (s := unE (Trm.sub t p)) hp
  have h4 := Trm.sub_sz t p hp
  have h5 := Trm.sz_pos f
  unfold und
  rw [h1] at h3 h4 ⊢
  simp [unE, Trm.sz] at h3 h4 ⊢
  omega
theorem und_fit {m : Nat} {t : Trm} {p : Nat} (hp : p < Trm.sz t) (h : Trm.fit m t) : Trm.fit m (und t p) := by
  obtain ⟨pre, suf, h1, h2, h3⟩ := Trm.sub_split t p hp
  rw [Trm.fit_iff] at h ⊢
  have hs : Trm.fit m (Trm.sub t p) := by
    rw [Trm.fit_iff]
    intro n hn
    exact h n (by rw [h2]; simp [hn])
  have hu : Trm.fit m (unE (Trm.sub t p)) := by
    generalize Trm.sub t p = s at hs
    unfold unE
    split
    · exact dn_fit hs.1
    · exact hs
  rw [Trm.fit_iff] at hu
  intro n hn
  unfold und at hn
  rw [h3] at hn
  simp only [List.mem_append] at hn
  rcases hn with (hn | hn) | hn
  · exact h n (by rw [h2]; simp [hn])
  · exact hu n hn
  · exact h n (by rw [h2]; simp [hn])
theorem und_ok {t : Trm} {p : Nat} (hp : p < Trm.sz t) (h : isEta (Trm.sub t p) = true) (ho : Ok t) : Ok (und t p) := ⟨by have := und_sz hp h; have := ho.1; omega, und_fit hp ho.2⟩
theorem opn1_sz {t : Trm} {p : Nat} (hp : p < Trm.sz t) : Trm.sz (opn1 t p) = Trm.sz t + 3 := by
  have h3 := Trm.rep_sz (s := opE (Trm.sub t p)) hp
  unfold opn1
  simp [opE, Trm.sz] at h3 ⊢
  omega
theorem opn1_fit {m : Nat} {t : Trm} {p : Nat} (hp : p < Trm.sz t) (h : Trm.fit m t) : Trm.fit (m + 1) (opn1 t p) := by
  obtain ⟨pre, suf, h1, h2, h3⟩ := Trm.sub_split t p hp
  have h' := Trm.fit_mono (Nat.le_add_right m 1) h
  rw [Trm.fit_iff] at h h' ⊢
  have hs : Trm.fit m (Trm.sub t p) := by
    rw [Trm.fit_iff]
    intro n hn
    exact h n (by rw [h2]; simp [hn])
  have hu : Trm.fit (m + 1) (opE (Trm.sub t p)) := ⟨Trm.sh_fit hs, by show 0 ≤ m + 1; omega⟩
  rw [Trm.fit_iff] at hu
  intro n hn
  unfold opn1 at hn
  rw [h3] at hn
  simp only [List.mem_append] at hn
  rcases hn with (hn | hn) | hn
  · exact h' n (by rw [h2]; simp [hn])
  · exact hu n hn
  · exact h' n (by rw [h2]; simp [hn])
theorem moved_dn_v (t : Trm) (h : Trm.sz t ≤ 1000000) : m_moved_by [IT (Trm.fl t), .int (-1), .int 1] = .ok (false, IT (Trm.fl (dn 0 t))) := by
  have key : RetX (m_moved_by [IT (Trm.fl t), .int (-1), .int 1]) (fun fr d => fr = false ∧ d = IT (((Trm.fl t).zip (Trm.arounds 0 t)).map (Trm.mvN (-1) 1))) NoX := by
    simp only [m_moved_by, mFn_3, b_moved_by]
    refine ret_fn fun R' X' hR hX => ?_
    simp [all_around_v t (by omega)]
    refine wp_loop (fun xs env => ∃ (f : List Int) (b0 : Bool) (x4 x5 : Option (Bool × D)), env = [some (b0, IT (Trm.fl t)), some (false, .int (-1)), some (false, .int 1), some (true, IL f), x4, x5] ∧ f ++ xs.map (Trm.mvN (-1) 1) = ((Trm.fl t).zip (Trm.arounds 0 t)).map (Trm.mvN (-1) 1) ∧ f.length + xs.length ≤ 1000000) ?_ ?_ ?_
    · exact ⟨[], _, _, _, rfl, rfl, by simp; omega⟩
    · rintro N B R'' X'' p xs env hN hB hR' hX' ⟨f, b0, x4, x5, rfl, h1, h2⟩
      obtain ⟨n, d⟩ := p
      simp at h2
      refine ⟨_, by simp [P2]; rfl, ?_⟩
      have h3 : f.length < 16777216 := by omega
      simp [b_moved_by_1]
      by_cases hc : d + 1 ≤ n
      · rw [if_pos hc]
        simp [h3]
        exact hN _ ⟨_, _, _, _, rfl, by rw [← h1]; simp [Trm.mvN, hc], by simp; omega⟩
      · rw [if_neg hc]
        simp [h3]
        exact hN _ ⟨_, _, _, _, rfl, by rw [← h1]; simp [Trm.mvN, hc], by simp; omega⟩
    · rintro env ⟨f, b0, x4, x5, rfl, h1, h2⟩
      simp
      exact hR _ _ ⟨rfl, by rw [← h1]; simp⟩
  obtain ⟨_, _, e, rfl, rfl⟩ := key.ok
  rw [e, dn_fl]
theorem means_none_v (t : Trm) (h : Trm.sz t ≤ 1000000) : m_means_none [IT (Trm.fl t)] = .ok (false, .bl (noF 0 t)) := by
  have key : RetX (m_means_none [IT (Trm.fl t)]) (fun fr d => fr = false ∧ d = .bl (noF 0 t)) NoX := by
    simp only [m_means_none, mFn_1, b_means_none]
    refine ret_fn fun R' X' hR hX => ?_
    simp [all_around_v t (by omega)]
    refine wp_loop (fun xs env => ∃ (b0 : Bool) (x1 x2 : Option (Bool × D)), env = [some (b0, IT (Trm.fl t)), x1, x2] ∧ noF 0 t = xs.all fun q => !decide (q.1 = q.2)) ?_ ?_ ?_
    · exact ⟨_, _, _, rfl, noF_zip 0 t⟩
    · rintro N B R'' X'' p xs env hN hB hR' hX' ⟨b0, x1, x2, rfl, h1⟩
      obtain ⟨n, d⟩ := p
      refine ⟨_, by simp [P2]; rfl, ?_⟩
      by_cases hc : n = d
      · simp [b_means_none_1, hc]
        exact hR' _ _ (hR _ _ ⟨rfl, by rw [h1]; simp [hc]⟩)
      · simp [b_means_none_1, hc]
        exact hN _ ⟨_, _, _, rfl, by rw [h1]; simp [hc]⟩
    · rintro env ⟨b0, x1, x2, rfl, h1⟩
      simp
      exact hR _ _ ⟨rfl, by rw [h1]; rfl⟩
  obtain ⟨_, _, e, rfl, rfl⟩ := key.ok
  exact e
theorem taker_v {f : Trm} {pre suf : List Int} {p : Nat} (h : pre.length = p + 2) : m_taker_of [IT (pre ++ Trm.fl f ++ suf), .int p] = .ok (false, IT (Trm.fl f)) := by
  have e := part_end_v f pre suf (p + 2) h
  have c : cutL (pre ++ Trm.fl f ++ suf) (some ((p : Int) + 2)) (some ((p : Int) + 2 + Trm.sz f)) = Trm.fl f := cut_mid (by rw [h]; omega) (by rw [h, Trm.fl_len]; omega)
  simp only [List.append_assoc] at e c ⊢
  simp at e
  simp [m_taker_of, mFn_2, b_taker_of, e, c]
theorem is_opening_v {t : Trm} {p : Nat} (hs : Trm.sz t ≤ 20000) (hp : p < Trm.sz t) : m_is_opening [IT (Trm.fl t), .int p] = .ok (false, .bl (isEta (Trm.sub t p))) := by
  obtain ⟨pre, suf, h1, h2, _⟩ := Trm.sub_split t p hp
  have hq := Trm.sub_sz t p hp
  generalize Trm.sub t p = s at *
  rw [h2]
  match s with
  | .spot n =>
    have g : (pre ++ (n : Int) :: suf)[p]? = some (n : Int) := get_mid h1
    have n1 : ¬ (n : Int) = -1 := by omega
    simp [m_is_opening, mFn_2, b_is_opening, Trm.fl, g, n1, isEta]
  | .app a b =>
    have g : (pre ++ -2 :: (Trm.fl a ++ (Trm.fl b ++ suf)))[p]? = some (-2) := get_mid h1
    simp [m_is_opening, mFn_2, b_is_opening, Trm.fl, g, isEta]
  | .lam (.spot n) =>
    have g : (pre ++ -1 :: (n : Int) :: suf)[p]? = some (-1) := get_mid h1
    have g1 : (pre ++ -1 :: (n : Int) :: suf)[p + 1]? = some (n : Int) := by
      rw [show pre ++ -1 :: (n : Int) :: suf = (pre ++ [-1]) ++ (n : Int) :: suf by simp]
      exact get_mid (by simp [h1])
    have n1 : ¬ (n : Int) = -2 := by omega
    simp [m_is_opening, mFn_2, b_is_opening, Trm.fl, g, g1, n1, isEta]
  | .lam (.lam c) =>
    have g : (pre ++ -1 :: -1 :: (Trm.fl c ++ suf))[p]? = some (-1) := get_mid h1
    have g1 : (pre ++ -1 :: -1 :: (Trm.fl c ++ suf))[p + 1]? = some (-1) := by
      rw [show pre ++ -1 :: -1 :: (Trm.fl c ++ suf) = (pre ++ [-1]) ++ -1 :: (Trm.fl c ++ suf) by simp]
      exact get_mid (by simp [h1])
    simp [m_is_opening, mFn_2, b_is_opening, Trm.fl, g, g1, isEta]
  | .lam (.app f u) =>
    have g : (pre ++ -1 :: -2 :: (Trm.fl f ++ (Trm.fl u ++ suf)))[p]? = some (-1) := get_mid h1
    have g1 : (pre ++ -1 :: -2 :: (Trm.fl f ++ (Trm.fl u ++ suf)))[p + 1]? = some (-2) := by
      rw [show pre ++ -1 :: -2 :: (Trm.fl f ++ (Trm.fl u ++ suf)) = (pre ++ [-1]) ++ -2 :: (Trm.fl f ++ (Trm.fl u ++ suf)) by simp]
      exact get_mid (by simp [h1])
    have tk := taker_v (f := f) (pre := pre ++ [-1, -2]) (suf := Trm.fl u ++ suf) (p := p) (by simp [h1])
    have tk : m_taker_of [IT (pre ++ -1 :: -2 :: (Trm.fl f ++ (Trm.fl u ++ suf))), .int p] = .ok (false, IT (Trm.fl f)) := by simpa using tk
    have mn := means_none_v f (by simp [Trm.sz] at hq; omega)
    obtain ⟨y, r, hy⟩ : ∃ y r, Trm.fl u = y :: r := by
      cases hu : Trm.fl u with
      | nil => exact (Trm.fl_ne u hu).elim
      | cons y r => exact ⟨y, r, rfl⟩
    have g2 : atI (pre ++ -1 :: -2 :: (Trm.fl f ++ (Trm.fl u ++ suf))) ((p : Int) + 2 + Trm.sz f) = some y := by
      rw [show (p : Int) + 2 + Trm.sz f = ((p + 2 + Trm.sz f : Nat) : Int) by omega, S.atI_nat, hy, show pre ++ -1 :: -2 :: (Trm.fl f ++ (y :: r ++ suf)) = (pre ++ [-1, -2] ++ Trm.fl f) ++ y :: (r ++ suf) by simp]
      exact get_mid (by simp [h1]; omega)
    have hi : isEta (.lam (.app f u)) = (decide (y = 0) && noF 0 f) := by
      cases u with
      | spot n =>
        simp [Trm.fl] at hy
        obtain ⟨rfl, rfl⟩ := hy
        cases n with
        | zero => simp [isEta]
        | succ n => simp [isEta]; omega
      | lam c => simp [Trm.fl] at hy; simp [isEta, ← hy.1]
      | app c d => simp [Trm.fl] at hy; simp [isEta, ← hy.1]
    rw [hi]
    by_cases hy0 : y = 0
    · simp [m_is_opening, mFn_2, b_is_opening, Trm.fl, g, g1, tk, mn, g2, hy0]
    · simp [m_is_opening, mFn_2, b_is_opening, Trm.fl, g, g1, tk, mn, g2, hy0]
/-- the places of openings -/
def els (t : Trm) : List Nat := (List.range (Trm.sz t)).filter fun p => isEta (Trm.sub t p)
theorem els_mem {t : Trm} {p : Nat} : p ∈ els t ↔ p < Trm.sz t ∧ isEta (Trm.sub t p) = true := by
  unfold els
  rw [List.mem_filter, List.mem_range]
theorem all_openings_v {t : Trm} (h : Trm.sz t ≤ 20000) : m_all_openings [IT (Trm.fl t)] = .ok (true, IL (nI (els t))) := by
  have hl : ((els t).map fun (k : Nat) => D.int (0 + (k : Int))).length ≤ sizeLine := by
    rw [List.length_map, szl]
    refine Nat.le_trans (List.length_filter_le _ _) ?_
    rw [List.length_range]; omega
  have hr : iRange1 (eFn fLen (aCons (eVar 0) aNil)) [some (false, IT (Trm.fl t)), none] = .ok (rangeI 0 (Trm.sz t)) := iR1_e (a := (Trm.sz t : Int)) (fr := false) (by simp) (by omega) (by omega) (by omega)
  have hk : compL (S.gName 1) (tE (eFn m_is_opening (aCons (eVar 0) (aCons (eVar 1) aNil)))) (eVar 1) [some (false, IT (Trm.fl t)), none] (rangeI 0 (Trm.sz t)) = .ok (true, (els t).map fun (k : Nat) => D.int (0 + (k : Int))) :=
    compL_filter (dec := fun (k : Nat) => D.int (0 + (k : Int))) (xs := List.range (Trm.sz t)) (f := fun (k : Nat) => D.int (0 + (k : Int))) (p := fun p => isEta (Trm.sub t p)) (by
      intro p hp
      rw [List.mem_range] at hp
      exact ⟨_, by simp; rfl, by simp [is_opening_v h hp], fun _ => ⟨false, by simp, rfl⟩⟩)
  have hc : eComp [] [1] (iRange1 (eFn fLen (aCons (eVar 0) aNil))) (S.gName 1) (tE (eFn m_is_opening (aCons (eVar 0) (aCons (eVar 1) aNil)))) (eVar 1) [some (false, IT (Trm.fl t)), none] = .ok (true, IL (nI (els t))) := by
    rw [eComp_ap, hr, compK_ok, show wipeE [1] (frz [] [some (false, IT (Trm.fl t)), none]) = [some (false, IT (Trm.fl t)), none] from rfl, hk, compR_ok, if_pos hl]
    have : ((els t).map fun (k : Nat) => D.int (0 + (k : Int))) = (nI (els t)).map D.int := by
      unfold nI
      rw [List.map_map]
      exact List.map_congr_left fun k _ => by simp
    rw [this]
    rfl
  have e : m_all_openings [IT (Trm.fl t)] = fnO (b_all_openings [some (false, IT (Trm.fl t)), none]) := mFn_1
  rw [e]
  unfold b_all_openings
  rw [mRet_ap, hc]
  simp
theorem undo_at_v {t : Trm} {p : Nat} (hs : Trm.sz t ≤ 20000) (hp : p < Trm.sz t) (h : isEta (Trm.sub t p) = true) : m_undo_at [IT (Trm.fl t), .int p] = .ok (false, IT (Trm.fl (und t p))) := by
  obtain ⟨pre, suf, h1, h2, h3⟩ := Trm.sub_split t p hp
  have hq := Trm.sub_sz t p hp
  obtain ⟨f, q1, q2⟩ := eta_shape h
  have h4 : Trm.fl (und t p) = pre ++ Trm.fl (dn 0 f) ++ suf := by unfold und; rw [h3, q1]; rfl
  rw [h4]
  have hl : pre.length + Trm.sz (Trm.sub t p) + suf.length = Trm.sz t := by
    have := congrArg List.length h2
    simp at this
    omega
  rw [q1] at h2 hq hl
  simp only [Trm.sz] at hq hl
  rw [h2]
  have tk := taker_v (f := f) (pre := pre ++ [-1, -2]) (suf := 0 :: suf) (p := p) (by simp [h1])
  have tk : m_taker_of [IT (pre ++ -1 :: -2 :: (Trm.fl f ++ 0 :: suf)), .int p] = .ok (false, IT (Trm.fl f)) := by simpa using tk
  have md := moved_dn_v f (by omega)
  have c1 : cutL (pre ++ -1 :: -2 :: (Trm.fl f ++ 0 :: suf)) none (some (p : Int)) = pre := cut_front (by rw [h1])
  have c2 : cutL (pre ++ -1 :: -2 :: (Trm.fl f ++ 0 :: suf)) (some ((p : Int) + 3 + Trm.sz f)) none = suf := by
    rw [show pre ++ -1 :: -2 :: (Trm.fl f ++ 0 :: suf) = (pre ++ [-1, -2] ++ Trm.fl f ++ [0]) ++ suf by simp]
    exact cut_back (by simp [h1]; omega)
  have l1 : pre.length + Trm.sz f ≤ 16777216 := by omega
  have l2 : pre.length + Trm.sz f + suf.length ≤ 16777216 := by omega
  have l3 : pre.length + (Trm.sz f + suf.length) ≤ 16777216 := by omega
  simp only [Trm.fl, List.cons_append, List.append_assoc, List.nil_append]
  simp [-cutL_hi, m_undo_at, mFn_2, b_undo_at, tk, md, c1, c2, l1, l2, l3]
theorem look_small_e {t : Trm} (h : Ok t) : m_look_small [IT (Trm.fl t)] = if Trm.sz t ≤ 200 then .ok (false, .non) else .ex "NoSize" none := by
  have e0 := look_term_tm h
  by_cases h1 : Trm.sz t ≤ 200
  · have h2 : ¬ (200 : Int) < Trm.sz t := by omega
    simp [m_look_small, mFn_1, b_look_small, e0, h1, h2]
  · have h2 : (200 : Int) < Trm.sz t := by omega
    simp [m_look_small, mFn_1, b_look_small, e0, h1, h2]
theorem openings_u {x : D} (e1 : m_look_small [x] = .ok (false, .non)) {L : List Int} (e2 : m_all_openings [x] = .ok (true, IL L)) : b_openings [some (false, x)] = .rt true (IL L) := by
  simp [b_openings, e1, e2]
theorem openings_w {x : D} : m_openings [x] = fnO (b_openings [some (false, x)]) := mFn_1
theorem openings_v {t : Trm} (h : Ok t) (hs : Trm.sz t ≤ 200) : m_openings [IT (Trm.fl t)] = .ok (true, IL (nI (els t))) := by
  have e1 := look_small_e h
  rw [if_pos hs] at e1
  rw [openings_w, openings_u e1 (all_openings_v h.1), fnO_rt]

end Law

namespace Law
open PySem PySem.Spec PyProof.Rows L2 S
/-! steps -/
theorem red_shape {s : Trm} (h : Trm.isRed s = true) : ∃ b u, s = .app (.lam b) u := by
  cases s with
  | app t u =>
    cases t with
    | lam b => exact ⟨b, u, rfl⟩
    | _ => simp [Trm.isRed] at h
  | _ => simp [Trm.isRed] at h
/-- whether there is a step at a whole number -/
def isR (t : Trm) (n : Int) : Bool := decide (0 ≤ n ∧ (Trm.fl t)[n.toNat]? = some (-2) ∧ (Trm.fl t)[n.toNat + 1]? = some (-1))
theorem isR_nat {t : Trm} {p : Nat} : isR t (p : Int) = true ↔ p < Trm.sz t ∧ Trm.isRed (Trm.sub t p) = true := by
  unfold isR
  rw [decide_eq_true_iff, Int.toNat_natCast]
  constructor
  · rintro ⟨_, h1, h2⟩
    have hp : p < Trm.sz t := by
      obtain ⟨h3, _⟩ := List.getElem?_eq_some_iff.mp h1
      simpa using h3
    exact ⟨hp, (Trm.red_iff hp).mpr ⟨h1, h2⟩⟩
  · rintro ⟨h1, h2⟩
    exact ⟨by omega, (Trm.red_iff h1).mp h2⟩
/-! things with their places -/
def prs : Nat → List Int → List (Nat × Int)
  | _, [] => []
  | i, x :: r => (i, x) :: prs (i + 1) r
theorem enumD_prs : ∀ (i : Nat) (xs : List Int), enumD D.int i xs = (prs i xs).map fun q => D.tup [.int (q.1 : Int), .int q.2]
  | _, [] => rfl
  | i, x :: r => by rw [enumD, prs, List.map_cons, enumD_prs (i + 1) r]
theorem prs_len : ∀ (i : Nat) (xs : List Int), (prs i xs).length = xs.length
  | _, [] => rfl
  | i, x :: r => by simp [prs, prs_len (i + 1) r]

end Law

namespace Law
open PySem PySem.Spec PyProof.Rows L2 S
/-! undone one behind another -/
def lea : Nat → Trm → Trm × List Nat
  | 0, t => (t, [])
  | k + 1, t => match els t with
    | [] => (t, [])
    | p :: _ => ((lea k (und t p)).1, p :: (lea k (und t p)).2)
def lst (t : Trm) : Trm × List Nat := lea (Trm.sz t) t
theorem lea_nil {k : Nat} {t : Trm} (h : els t = []) : lea k t = (t, []) := by
  cases k with
  | zero => rfl
  | succ k => simp [lea, h]
theorem lea_cons {k : Nat} {t : Trm} {p : Nat} {r : List Nat} (h : els t = p :: r) : lea (k + 1) t = ((lea k (und t p)).1, p :: (lea k (und t p)).2) := by simp [lea, h]
theorem els_head {t : Trm} {p : Nat} {r : List Nat} (h : els t = p :: r) : p < Trm.sz t ∧ isEta (Trm.sub t p) = true := els_mem.mp (by rw [h]; simp)
theorem lea_len : ∀ (k : Nat) (t : Trm), (lea k t).2.length ≤ k
  | 0, t => by simp [lea]
  | k + 1, t => by
    cases h : els t with
    | nil => rw [lea_nil h]; simp
    | cons p r => rw [lea_cons h]; have := lea_len k (und t p); simp; omega
theorem lea_ok : ∀ (k : Nat) {t : Trm}, Ok t → Ok (lea k t).1
  | 0, t, h => h
  | k + 1, t, h => by
    cases q : els t with
    | nil => rw [lea_nil q]; exact h
    | cons p r =>
      rw [lea_cons q]
      obtain ⟨h1, h2⟩ := els_head q
      exact lea_ok k (und_ok h1 h2 h)
@[simp] theorem nI_nil : nI [] = [] := rfl
@[simp] theorem nI_cons {p : Nat} {r : List Nat} : nI (p :: r) = (p : Int) :: nI r := rfl
theorem look_opening_y {t : Trm} {p : Nat} (hs : Trm.sz t ≤ 20000) (hp : p < Trm.sz t) (h : isEta (Trm.sub t p) = true) : m_look_opening [IT (Trm.fl t), .int p] = .ok (false, .non) := by
  have e1 := look_place_y hp
  have e2 := is_opening_v hs hp
  rw [h] at e2
  simp [m_look_opening, mFn_2, b_look_opening, e1, e2]
theorem look_opening_n {t : Trm} {p : Nat} (hs : Trm.sz t ≤ 20000) (hp : p < Trm.sz t) (h : isEta (Trm.sub t p) = false) : m_look_opening [IT (Trm.fl t), .int p] = .ex "NoOpening" none := by
  have e1 := look_place_y hp
  have e2 := is_opening_v hs hp
  rw [h] at e2
  simp [m_look_opening, mFn_2, b_look_opening, e1, e2]
theorem undone_v {t : Trm} {p : Nat} (ho : Ok t) (hp : p < Trm.sz t) (h : isEta (Trm.sub t p) = true) : m_undone [IT (Trm.fl t), .int p] = .ok (false, IT (Trm.fl (und t p))) := by
  have e0 := look_term_tm ho
  have e1 := look_opening_y ho.1 hp h
  have e2 := undo_at_v ho.1 hp h
  simp [m_undone, mFn_2, b_undone, e0, e1, e2]
/-- the places of steps -/
def rds (t : Trm) : List Nat := (List.range (Trm.sz t)).filter fun p => isR t (p : Int)
theorem rds_mem {t : Trm} {p : Nat} : p ∈ rds t ↔ p < Trm.sz t ∧ Trm.isRed (Trm.sub t p) = true := by
  unfold rds
  rw [List.mem_filter, List.mem_range, ← isR_nat]
  exact ⟨fun h => h.2, fun h => ⟨(isR_nat.mp h).1, h⟩⟩
end Law

namespace Law
open PySem PySem.Spec PyProof.Rows L2 S
/-! the law's own openings -/
theorem iR2_e {m k : S.Env → RD} {env : S.Env} {a b : Int} {fr fr' : Bool} {n : Nat} (h : m env = .ok (fr, .int a)) (h' : k env = .ok (fr', .int b)) (ha : 0 ≤ a) (hb : -1000000 ≤ b) (ha2 : a ≤ 1000000) (hb2 : b ≤ 1000000) (e : (b - a).toNat = n) : iRange2 m k env = .ok (rangeI a n) := by
  unfold iRange2
  rw [h, Rs.bind_ok, h', Rs.bind_ok]
  have c1 : -(2 ^ 62) ≤ a := by omega
  have c2 : a < 2 ^ 62 := by omega
  have c3 : -(2 ^ 62) ≤ b := by omega
  have c4 : b < 2 ^ 62 := by omega
  dsimp only
  rw [if_pos ⟨c1, c2, c3, c4⟩, e]
theorem lends_seg : ∀ (t : Trm) (pre suf A X B : List Int) (b0 : Bool) (x2 : Option (Bool × D)), pre.length = A.length → X.length = Trm.sz t →
    ∃ x2', Goes (gName 2) b_law_ends_1 (rangeD ((A.length : Int) + Trm.sz t - 1) (Trm.sz t)) [some (b0, IT (pre ++ Trm.fl t ++ suf)), some (true, IL (A ++ X ++ B)), x2] [some (b0, IT (pre ++ Trm.fl t ++ suf)), some (true, IL (A ++ Trm.ends A.length t ++ B)), x2']
  | .spot n, pre, suf, A, X, B, b0, x2, h1, h2 => by
    match X, h2 with
    | [x], _ =>
    have e0 : rangeD ((A.length : Int) + Trm.sz (.spot n) - 1) (Trm.sz (.spot n)) = [D.int A.length] := by
      rw [show Trm.sz (.spot n) = 1 from rfl, rangeD_succ, rangeD_zero]
      congr 2; omega
    rw [e0]
    refine ⟨some (false, .int A.length), Goes.one rfl ?_⟩
    have g2 : (pre ++ (n : Int) :: suf)[A.length]? = some (n : Int) := get_mid h1
    have g3 : ∀ y, setI (A ++ x :: B) (A.length : Int) y = some (A ++ y :: B) := fun y => setI_mid rfl
    have n1 : ¬ (n : Int) = -1 := by omega
    have n2 : ¬ (n : Int) = -2 := by omega
    simp [Trm.fl, Trm.ends, Trm.sz]
    simp [b_law_ends_1, g2, g3, n1, n2]
  | .lam b, pre, suf, A, X, B, b0, x2, h1, h2 => by
    match X, h2 with
    | x :: X, h2 =>
    have h3 : X.length = Trm.sz b := by simp [Trm.sz] at h2; omega
    obtain ⟨y, G⟩ := lends_seg b (pre ++ [-1]) suf (A ++ [x]) X B b0 x2 (by simp [h1]) h3
    obtain ⟨r, hr⟩ := Trm.ends_head (A.length + 1) b
    have e0 : rangeD ((A.length : Int) + Trm.sz (.lam b) - 1) (Trm.sz (.lam b)) = rangeD (((A ++ [x]).length : Int) + Trm.sz b - 1) (Trm.sz b) ++ [D.int A.length] := by
      rw [show Trm.sz (.lam b) = Trm.sz b + 1 from rfl, rangeD_add]
      congr 1
      · congr 1; simp; omega
      · rw [rangeD_succ, rangeD_zero]
        congr 2; omega
    rw [e0]
    have e1 : pre ++ Trm.fl (.lam b) ++ suf = pre ++ [-1] ++ Trm.fl b ++ suf := by simp [Trm.fl]
    have e2 : A ++ x :: X ++ B = A ++ [x] ++ X ++ B := by simp
    rw [e1, e2]
    refine ⟨some (false, .int A.length), G.trans (Goes.one rfl ?_)⟩
    have hl : (A ++ [x]).length = A.length + 1 := by simp
    rw [hl]
    have g2 : (pre ++ -1 :: (Trm.fl b ++ suf))[A.length]? = some (-1 : Int) := get_mid h1
    have g3 : ∀ x y, setI (A ++ x :: (Trm.ends (A.length + 1) b ++ B)) (A.length : Int) y = some (A ++ y :: (Trm.ends (A.length + 1) b ++ B)) := fun x y => setI_mid rfl
    have g4 : ∀ y, (A ++ y :: (Trm.ends (A.length + 1) b ++ B))[A.length + 1]? = some (((A.length + 1 + Trm.sz b : Nat) : Int)) := fun y => by
      rw [hr, show A ++ y :: (((A.length + 1 + Trm.sz b : Nat) : Int) :: r ++ B) = (A ++ [y]) ++ ((A.length + 1 + Trm.sz b : Nat) : Int) :: (r ++ B) by simp]
      exact get_mid (by simp)
    simp only [Trm.ends, List.append_assoc, List.cons_append, List.nil_append, List.singleton_append]
    simp [b_law_ends_1, g2, g3, g4]
    congr 3; omega
  | .app t u, pre, suf, A, X, B, b0, x2, h1, h2 => by
    match X, h2 with
    | x :: X, h2 =>
    have h3 : X.length = Trm.sz t + Trm.sz u := by simp [Trm.sz] at h2; omega
    have hX : X = X.take (Trm.sz t) ++ X.drop (Trm.sz t) := (List.take_append_drop _ _).symm
    generalize hX1 : X.take (Trm.sz t) = X1 at hX
    generalize hX2 : X.drop (Trm.sz t) = X2 at hX
    have l1 : X1.length = Trm.sz t := by rw [← hX1, List.length_take]; omega
    have l2 : X2.length = Trm.sz u := by rw [← hX2, List.length_drop]; omega
    subst hX
    obtain ⟨y, G1⟩ := lends_seg u (pre ++ [-2] ++ Trm.fl t) suf (A ++ [x] ++ X1) X2 B b0 x2 (by simp [h1, l1]) l2
    obtain ⟨y', G2⟩ := lends_seg t (pre ++ [-2]) (Trm.fl u ++ suf) (A ++ [x]) X1 (Trm.ends (A ++ [x] ++ X1).length u ++ B) b0 y (by simp [h1]) l1
    have hl : (A ++ [x] ++ X1).length = A.length + 1 + Trm.sz t := by simp [l1]; omega
    have hl2 : (A ++ [x]).length = A.length + 1 := by simp
    rw [hl] at G1 G2
    rw [hl2] at G2
    obtain ⟨r, hr⟩ := Trm.ends_head (A.length + 1) t
    obtain ⟨r2, hr2⟩ := Trm.ends_head (A.length + 1 + Trm.sz t) u
    have lr : r.length + 1 = Trm.sz t := by
      have := Trm.ends_len (A.length + 1) t
      rw [hr] at this
      simpa using this
    have e0 : rangeD ((A.length : Int) + Trm.sz (.app t u) - 1) (Trm.sz (.app t u)) = rangeD (((A.length + 1 + Trm.sz t : Nat) : Int) + Trm.sz u - 1) (Trm.sz u) ++ (rangeD (((A.length + 1 : Nat) : Int) + Trm.sz t - 1) (Trm.sz t) ++ [D.int A.length]) := by
      rw [show Trm.sz (.app t u) = Trm.sz u + (Trm.sz t + 1) from by simp only [Trm.sz]; omega, rangeD_add, rangeD_add]
      congr 1
      · congr 1; omega
      · congr 1
        · congr 1; omega
        · rw [rangeD_succ, rangeD_zero]
          congr 2; omega
    rw [e0]
    have e1 : pre ++ Trm.fl (.app t u) ++ suf = pre ++ [-2] ++ Trm.fl t ++ Trm.fl u ++ suf := by simp [Trm.fl]
    have e2 : A ++ x :: (X1 ++ X2) ++ B = A ++ [x] ++ X1 ++ X2 ++ B := by simp
    have e3 : pre ++ [-2] ++ Trm.fl t ++ (Trm.fl u ++ suf) = pre ++ [-2] ++ Trm.fl t ++ Trm.fl u ++ suf := by simp
    have e4 : A ++ [x] ++ X1 ++ (Trm.ends (A.length + 1 + Trm.sz t) u ++ B) = A ++ [x] ++ X1 ++ Trm.ends (A.length + 1 + Trm.sz t) u ++ B := by simp
    rw [e3, e4] at G2
    rw [e1, e2]
    refine ⟨some (false, .int A.length), G1.trans (G2.trans (Goes.one rfl ?_))⟩
    generalize hE2 : Trm.ends (A.length + 1 + Trm.sz t) u = E2 at hr2 ⊢
    generalize hE1 : Trm.ends (A.length + 1) t = E1 at hr ⊢
    have g2 : (pre ++ -2 :: (Trm.fl t ++ (Trm.fl u ++ suf)))[A.length]? = some (-2 : Int) := get_mid h1
    have g3 : ∀ x y, setI (A ++ x :: (E1 ++ (E2 ++ B))) (A.length : Int) y = some (A ++ y :: (E1 ++ (E2 ++ B))) := fun x y => setI_mid rfl
    have g4 : ∀ y, (A ++ y :: (E1 ++ (E2 ++ B)))[A.length + 1]? = some (((A.length + 1 + Trm.sz t : Nat) : Int)) := fun y => by
      rw [hr, show A ++ y :: (((A.length + 1 + Trm.sz t : Nat) : Int) :: r ++ (E2 ++ B)) = (A ++ [y]) ++ ((A.length + 1 + Trm.sz t : Nat) : Int) :: (r ++ (E2 ++ B)) by simp]
      exact get_mid (by simp)
    have g6 : ∀ y, atI (A ++ y :: (E1 ++ (E2 ++ B))) ((A.length : Int) + 1 + Trm.sz t) = some (((A.length + 1 + Trm.sz t + Trm.sz u : Nat) : Int)) := fun y => by
      rw [show (A.length : Int) + 1 + Trm.sz t = ((A.length + 1 + Trm.sz t : Nat) : Int) by omega, S.atI_nat, hr2, show A ++ y :: (E1 ++ (((A.length + 1 + Trm.sz t + Trm.sz u : Nat) : Int) :: r2 ++ B)) = (A ++ [y] ++ E1) ++ ((A.length + 1 + Trm.sz t + Trm.sz u : Nat) : Int) :: (r2 ++ B) by simp]
      exact get_mid (by rw [hr]; simp; omega)
    simp only [Trm.ends, hE1, hE2, List.append_assoc, List.cons_append, List.nil_append, List.singleton_append]
    simp [b_law_ends_1, g2, g3, g4, g6]
    congr 3; omega
theorem law_ends_v (t : Trm) (h : Trm.sz t ≤ 16777216) : m_law_ends [IT (Trm.fl t)] = .ok (true, IL (Trm.ends 0 t)) := by
  obtain ⟨y, G⟩ := lends_seg t [] [] [] (List.replicate (Trm.sz t) 0) [] false none rfl (by simp)
  have hp := Trm.sz_pos t
  have l3 : (Trm.sz t : Int) < 9223372036854775808 := by omega
  simp only [m_law_ends, mFn_1, b_law_ends]
  simp [h, l3]
  rw [if_pos (by omega)]
  simp at G
  rw [G.done]
  simp
theorem ends_at : ∀ (t : Trm) (k p : Nat), p < Trm.sz t → (Trm.ends k t)[p]? = some ((k + p + Trm.sz (Trm.sub t p) : Nat) : Int)
  | t, k, 0, h => by
    obtain ⟨r, hr⟩ := Trm.ends_head k t
    rw [hr]
    cases t <;> simp [Trm.sub]
  | .spot n, k, p + 1, h => by simp [Trm.sz] at h
  | .lam b, k, p + 1, h => by
    have := ends_at b (k + 1) p (by simp [Trm.sz] at h; omega)
    rw [Trm.ends, List.getElem?_cons_succ, this, Trm.sub]
    congr 2; omega
  | .app t u, k, p + 1, h => by
    rw [Trm.ends, List.getElem?_cons_succ, Trm.sub]
    by_cases hp : p < Trm.sz t
    · rw [List.getElem?_append_left (by simpa using hp), ends_at t (k + 1) p hp, if_pos hp]
      congr 2; omega
    · rw [List.getElem?_append_right (by simp; omega), Trm.ends_len, ends_at u (k + 1 + Trm.sz t) (p - Trm.sz t) (by simp [Trm.sz] at h; omega), if_neg hp]
      congr 2; omega
/-! turns around, the law's way -/
theorem inc_run {y0 y1 y3 y4 : Option (Bool × D)} : ∀ (B A C : List Int) (x5 : Option (Bool × D)), ∃ x5', Goes (S.gName 5) b_law_about_1 (rangeI (A.length : Int) B.length) [y0, y1, some (true, IL (A ++ B ++ C)), y3, y4, x5] [y0, y1, some (true, IL (A ++ B.map (· + 1) ++ C)), y3, y4, x5']
  | [], A, C, x5 => ⟨x5, by simpa [rangeI_zero] using Goes.nil⟩
  | b :: B, A, C, x5 => by
    obtain ⟨y, G⟩ := inc_run B (A ++ [b + 1]) C (some (false, .int (A.length : Int)))
    refine ⟨y, ?_⟩
    rw [List.length_cons, rangeI_succ]
    rw [show ((A ++ [b + 1]).length : Int) = (A.length : Int) + 1 by simp] at G
    refine Goes.cons rfl ?_ (by simpa using G)
    simp only [b_law_about_1, List.append_assoc, List.cons_append]
    simp [augI_mid (A := A) (R := B ++ C) (k := A.length) rfl]
theorem ar_succ : ∀ (t : Trm) (d : Nat), Trm.arounds (d + 1) t = (Trm.arounds d t).map (· + 1)
  | .spot n, d => by simp [Trm.arounds]
  | .lam b, d => by simp [Trm.arounds, ar_succ b (d + 1)]
  | .app t u, d => by simp [Trm.arounds, ar_succ t d, ar_succ u d]
theorem zw_inc : ∀ (M N : List Int), List.zipWith (· + ·) (M.map (· + 1)) N = List.zipWith (· + ·) M (N.map (· + 1))
  | [], N => by simp
  | m :: M, [] => by simp
  | m :: M, n :: N => by simp [zw_inc M N]; omega
theorem zw_zero : ∀ (N : List Int), List.zipWith (· + ·) (List.replicate N.length (0 : Int)) N = N
  | [] => rfl
  | n :: N => by simp [List.replicate_succ, zw_zero N]
theorem about_seg {T : D} {b0 b1 : Bool} : ∀ (t : Trm) (i : Nat) (EA EB FA M FB : List Int) (x3 x4 x5 : Option (Bool × D)), EA.length = i → FA.length = i → M.length = Trm.sz t → i + Trm.sz t ≤ 1000000 →
    ∃ x3' x4' x5', Goes (S.gTup 2 (S.gCons (S.gName 3) (S.gCons (S.gName 4) S.gNil))) b_law_about_2 (enumD D.int i (Trm.fl t)) [some (b0, T), some (b1, IL (EA ++ Trm.ends i t ++ EB)), some (true, IL (FA ++ M ++ FB)), x3, x4, x5]
      [some (b0, T), some (b1, IL (EA ++ Trm.ends i t ++ EB)), some (true, IL (FA ++ List.zipWith (· + ·) M (Trm.arounds 0 t) ++ FB)), x3', x4', x5']
  | .spot n, i, EA, EB, FA, M, FB, x3, x4, x5, h1, h2, h3, h4 => by
    match M, h3 with
    | [m], _ =>
    have n1 : ¬ (n : Int) = -1 := by omega
    refine ⟨some (false, .int (i : Int)), some (false, .int (n : Int)), x5, Goes.one rfl ?_⟩
    generalize EA ++ Trm.ends i (.spot n) ++ EB = E
    simp [b_law_about_2, n1, Trm.arounds]
  | .lam b, i, EA, EB, FA, M, FB, x3, x4, x5, h1, h2, h3, h4 => by
    match M, h3 with
    | m :: M, h3 =>
    have h5 : M.length = Trm.sz b := by simp [Trm.sz] at h3; omega
    have h6 : i + (Trm.sz b + 1) ≤ 1000000 := by simpa [Trm.sz] using h4
    obtain ⟨z, G0⟩ := inc_run (y0 := some (b0, T)) (y1 := some (b1, IL (EA ++ Trm.ends i (.lam b) ++ EB))) (y3 := some (false, .int (i : Int))) (y4 := some (false, .int (-1))) M (FA ++ [m]) FB x5
    obtain ⟨z3, z4, z5, G⟩ := about_seg (T := T) (b0 := b0) (b1 := b1) b (i + 1) (EA ++ [((i + (Trm.sz b + 1) : Nat) : Int)]) EB (FA ++ [m]) (M.map (· + 1)) FB (some (false, .int (i : Int))) (some (false, .int (-1))) z (by simp [h1]) (by simp [h2]) (by simp [h5]) (by omega)
    have g : atI (EA ++ Trm.ends i (.lam b) ++ EB) (i : Int) = some ((i + (Trm.sz b + 1) : Nat) : Int) := by
      rw [S.atI_nat, Trm.ends, List.append_assoc, List.cons_append]
      exact get_mid h1
    have hr : iRange2 (eOp gAdd (eVar 3) (eC (.int 1))) (eOp gIx (eVar 1) (eVar 3)) [some (b0, T), some (b1, IL (EA ++ Trm.ends i (.lam b) ++ EB)), some (true, IL (FA ++ m :: M ++ FB)), some (false, .int (i : Int)), some (false, .int (-1)), x5] = .ok (rangeI ((FA ++ [m]).length : Int) M.length) := by
      have e0 : ((FA ++ [m]).length : Int) = (i : Int) + 1 := by simp [h2]
      rw [e0]
      exact iR2_e (a := (i : Int) + 1) (b := ((i + (Trm.sz b + 1) : Nat) : Int)) (fr := false) (fr' := false) (by simp) (by
        generalize EA ++ Trm.ends i (.lam b) ++ EB = E at g
        simp at g
        simp [g]) (by omega) (by omega) (by omega) (by omega) (by omega)
    refine ⟨z3, z4, z5, ?_⟩
    rw [Trm.fl, enumD]
    refine Goes.cons (e2 := [some (b0, T), some (b1, IL (EA ++ Trm.ends i (.lam b) ++ EB)), some (true, IL (FA ++ [m] ++ M.map (· + 1) ++ FB)), some (false, .int (i : Int)), some (false, .int (-1)), z]) rfl ?_ ?_
    · generalize EA ++ Trm.ends i (.lam b) ++ EB = E at *
      have e1 : FA ++ [m] ++ M ++ FB = FA ++ m :: M ++ FB := by simp
      rw [e1] at G0
      have hi : ∀ {y0 y1 y2 y3 y5 : Option (Bool × D)}, tE (eOp gEq (eVar 4) (eUn gNeg (eC (.int 1)))) [y0, y1, y2, y3, some (false, .int (-1)), y5] = .ok true := by simp
      unfold b_law_about_2
      rw [mIf_ap]
      show Rs.ifK (tE (eOp gEq (eVar 4) (eUn gNeg (eC (.int 1)))) [some (b0, T), some (b1, IL E), some (true, IL (FA ++ m :: M ++ FB)), some (false, .int (i : Int)), some (false, .int (-1)), x5]) _ _ _ = _
      rw [hi, ifK_ok, if_pos rfl, mFor_ap]
      show Rs.forK (iRange2 (eOp gAdd (eVar 3) (eC (.int 1))) (eOp gIx (eVar 1) (eVar 3)) [some (b0, T), some (b1, IL E), some (true, IL (FA ++ m :: M ++ FB)), some (false, .int (i : Int)), some (false, .int (-1)), x5]) _ _ _ _ = _
      rw [hr, forK_ok]
      exact G0.done
    · have e2 : EA ++ [((i + (Trm.sz b + 1) : Nat) : Int)] ++ Trm.ends (i + 1) b ++ EB = EA ++ Trm.ends i (.lam b) ++ EB := by simp [Trm.ends]
      have e3 : FA ++ [m] ++ List.zipWith (· + ·) (M.map (· + 1)) (Trm.arounds 0 b) ++ FB = FA ++ List.zipWith (· + ·) (m :: M) (Trm.arounds 0 (.lam b)) ++ FB := by
        rw [zw_inc, ← ar_succ]
        simp [Trm.arounds]
      rw [e2, e3] at G
      exact G
  | .app t u, i, EA, EB, FA, M, FB, x3, x4, x5, h1, h2, h3, h4 => by
    match M, h3 with
    | m :: M, h3 =>
    have h5 : M.length = Trm.sz t + Trm.sz u := by simp [Trm.sz] at h3; omega
    have h6 : i + (Trm.sz t + Trm.sz u + 1) ≤ 1000000 := by simpa [Trm.sz] using h4
    have hM : M = M.take (Trm.sz t) ++ M.drop (Trm.sz t) := (List.take_append_drop _ _).symm
    generalize hM1 : M.take (Trm.sz t) = M1 at hM
    generalize hM2 : M.drop (Trm.sz t) = M2 at hM
    have l1 : M1.length = Trm.sz t := by rw [← hM1, List.length_take]; omega
    have l2 : M2.length = Trm.sz u := by rw [← hM2, List.length_drop]; omega
    subst hM
    obtain ⟨z3, z4, z5, G1⟩ := about_seg (T := T) (b0 := b0) (b1 := b1) t (i + 1) (EA ++ [((i + (Trm.sz t + Trm.sz u + 1) : Nat) : Int)]) (Trm.ends (i + 1 + Trm.sz t) u ++ EB) (FA ++ [m]) M1 (M2 ++ FB) (some (false, .int (i : Int))) (some (false, .int (-2))) x5 (by simp [h1]) (by simp [h2]) l1 (by omega)
    obtain ⟨w3, w4, w5, G2⟩ := about_seg (T := T) (b0 := b0) (b1 := b1) u (i + 1 + Trm.sz t) (EA ++ [((i + (Trm.sz t + Trm.sz u + 1) : Nat) : Int)] ++ Trm.ends (i + 1) t) EB (FA ++ [m] ++ List.zipWith (· + ·) M1 (Trm.arounds 0 t)) M2 FB z3 z4 z5 (by simp [h1]; omega) (by simp [h2, l1]; omega) l2 (by omega)
    refine ⟨w3, w4, w5, ?_⟩
    rw [Trm.fl, enumD, enumD_app, Trm.fl_len]
    have e2 : EA ++ [((i + (Trm.sz t + Trm.sz u + 1) : Nat) : Int)] ++ Trm.ends (i + 1) t ++ (Trm.ends (i + 1 + Trm.sz t) u ++ EB) = EA ++ Trm.ends i (.app t u) ++ EB := by simp [Trm.ends]
    have e2' : EA ++ [((i + (Trm.sz t + Trm.sz u + 1) : Nat) : Int)] ++ Trm.ends (i + 1) t ++ Trm.ends (i + 1 + Trm.sz t) u ++ EB = EA ++ Trm.ends i (.app t u) ++ EB := by simp [Trm.ends]
    have e3 : FA ++ [m] ++ List.zipWith (· + ·) M1 (Trm.arounds 0 t) ++ (M2 ++ FB) = FA ++ [m] ++ List.zipWith (· + ·) M1 (Trm.arounds 0 t) ++ M2 ++ FB := by simp
    have e4 : FA ++ [m] ++ List.zipWith (· + ·) M1 (Trm.arounds 0 t) ++ List.zipWith (· + ·) M2 (Trm.arounds 0 u) ++ FB = FA ++ List.zipWith (· + ·) (m :: (M1 ++ M2)) (Trm.arounds 0 (.app t u)) ++ FB := by
      simp only [Trm.arounds, List.zipWith_cons_cons]
      rw [List.zipWith_append (by simp [l1])]
      simp
    rw [e2, e3] at G1
    rw [e2', e4] at G2
    refine Goes.cons (e2 := [some (b0, T), some (b1, IL (EA ++ Trm.ends i (.app t u) ++ EB)), some (true, IL (FA ++ [m] ++ M1 ++ (M2 ++ FB))), some (false, .int (i : Int)), some (false, .int (-2)), x5]) rfl ?_ (G1.trans G2)
    generalize EA ++ Trm.ends i (.app t u) ++ EB = E at *
    simp [b_law_about_2]
theorem law_about_v (t : Trm) (h : Trm.sz t ≤ 1000000) : m_law_about [IT (Trm.fl t)] = .ok (true, IL (Trm.arounds 0 t)) := by
  obtain ⟨x3, x4, x5, G⟩ := about_seg (T := IT (Trm.fl t)) (b0 := false) (b1 := true) t 0 [] [] [] (List.replicate (Trm.sz t) 0) [] none none none rfl rfl (by simp) (by omega)
  have hz := zw_zero (Trm.arounds 0 t)
  rw [Trm.arounds_len] at hz
  rw [hz] at G
  have l1 : Trm.sz t ≤ 16777216 := by omega
  have l3 : (Trm.sz t : Int) < 9223372036854775808 := by omega
  simp only [m_law_about, mFn_1, b_law_about]
  simp [law_ends_v t l1, l1, l3, mapIdx_enum]
  simp at G
  rw [G.done]
  simp
theorem law_moved1_v (t : Trm) (h : Trm.sz t ≤ 1000000) : m_law_moved [IT (Trm.fl t), .int 1] = .ok (false, IT (Trm.fl (Trm.sh 1 0 0 t))) := by
  have key : RetX (m_law_moved [IT (Trm.fl t), .int 1]) (fun fr d => fr = false ∧ d = IT (((Trm.fl t).zip (Trm.arounds 0 t)).map (Trm.mvN 1 0))) NoX := by
    simp only [m_law_moved, mFn_2, b_law_moved]
    refine ret_fn fun R' X' hR hX => ?_
    simp [law_about_v t h]
    refine wp_loop (fun xs env => ∃ (f : List Int) (b0 : Bool) (x3 x4 : Option (Bool × D)), env = [some (b0, IT (Trm.fl t)), some (false, .int 1), some (true, IL f), x3, x4] ∧ f ++ xs.map (Trm.mvN 1 0) = ((Trm.fl t).zip (Trm.arounds 0 t)).map (Trm.mvN 1 0) ∧ f.length + xs.length ≤ 1000000) ?_ ?_ ?_
    · exact ⟨[], _, _, _, rfl, rfl, by simp; omega⟩
    · rintro N B R'' X'' p xs env hN hB hR' hX' ⟨f, b0, x3, x4, rfl, h1, h2⟩
      obtain ⟨n, d⟩ := p
      simp at h2
      refine ⟨_, by simp [P2]; rfl, ?_⟩
      have h3 : f.length < 16777216 := by omega
      by_cases hc : d ≤ n
      · simp [b_law_moved_1, hc, h3]
        exact hN _ ⟨_, _, _, _, rfl, by rw [← h1]; simp [Trm.mvN, hc], by simp; omega⟩
      · simp [b_law_moved_1, hc, h3]
        exact hN _ ⟨_, _, _, _, rfl, by rw [← h1]; simp [Trm.mvN, hc], by simp; omega⟩
    · rintro env ⟨f, b0, x3, x4, rfl, h1, h2⟩
      simp
      exact hR _ _ ⟨rfl, by rw [← h1]; simp⟩
  obtain ⟨_, _, e, rfl, rfl⟩ := key.ok
  rw [e, Trm.sh_fl]
  rfl
theorem law_opened_v {t : Trm} {p : Nat} (hs : Trm.sz t ≤ 20000) (hp : p < Trm.sz t) : m_law_opened [IT (Trm.fl t), .int p] = .ok (false, IT (Trm.fl (opn1 t p))) := by
  obtain ⟨pre, suf, h1, h2, h3⟩ := Trm.sub_split t p hp
  have hq := Trm.sub_sz t p hp
  have h4 : Trm.fl (opn1 t p) = pre ++ (-1 :: -2 :: (Trm.fl (Trm.sh 1 0 0 (Trm.sub t p)) ++ [0])) ++ suf := by unfold opn1; rw [h3]; rfl
  rw [h4]
  have hl : pre.length + Trm.sz (Trm.sub t p) + suf.length = Trm.sz t := by
    have := congrArg List.length h2
    simp at this
    omega
  have pe := law_ends_v t (by omega)
  have pa := ends_at t 0 p hp
  rw [Nat.zero_add] at pa
  have md := law_moved1_v (Trm.sub t p) (by omega)
  generalize Trm.sub t p = s at *
  have c1 : cutL (pre ++ (Trm.fl s ++ suf)) none (some (p : Int)) = pre := cut_front (by rw [h1])
  have c2 : cutL (pre ++ (Trm.fl s ++ suf)) (some (p : Int)) (some ((p : Int) + Trm.sz s)) = Trm.fl s := by
    rw [← List.append_assoc]
    exact cut_mid (by rw [h1]) (by rw [h1, Trm.fl_len]; omega)
  have c3 : cutL (pre ++ (Trm.fl s ++ suf)) (some ((p : Int) + Trm.sz s)) none = suf := by
    rw [← List.append_assoc]
    exact cut_back (by simp [h1])
  rw [h2, List.append_assoc] at pe ⊢
  generalize Trm.ends 0 t = E at pe pa
  simp at pe pa
  have l1 : pre.length + 2 ≤ 16777216 := by omega
  simp [-cutL_hi, m_law_opened, mFn_2, b_law_opened, pe, pa, md, c1, c2, c3, l1]
  rw [if_pos (by omega), if_pos (by omega), if_pos (by omega)]

end Law

namespace Law
open PySem PySem.Spec PyProof.Rows L2 S
/-! undone again, the law's way -/
theorem sub_in : ∀ (t : Trm) (p q : Nat), p < Trm.sz t → q < Trm.sz (Trm.sub t p) → Trm.sub t (p + q) = Trm.sub (Trm.sub t p) q
  | t, 0, q, _, _ => by cases t <;> simp [Trm.sub]
  | .spot n, p + 1, q, h, _ => by simp [Trm.sz] at h
  | .lam b, p + 1, q, h, h2 => by
    rw [show p + 1 + q = p + q + 1 by omega]
    exact sub_in b p q (by simp [Trm.sz] at h; omega) h2
  | .app t u, p + 1, q, h, h2 => by
    rw [show p + 1 + q = p + q + 1 by omega]
    simp only [Trm.sub] at h2 ⊢
    by_cases hp : p < Trm.sz t
    · rw [if_pos hp] at h2 ⊢
      have := Trm.sub_sz t p hp
      rw [if_pos (by omega)]
      exact sub_in t p q hp h2
    · rw [if_neg hp] at h2 ⊢
      rw [if_neg (by omega), show p + q - Trm.sz t = p - Trm.sz t + q by omega]
      exact sub_in u (p - Trm.sz t) q (by simp [Trm.sz] at h; omega) h2
theorem eta_head {f u : Trm} {y : Int} {r : List Int} (h : Trm.fl u = y :: r) : isEta (.lam (.app f u)) = (decide (y = 0) && noF 0 f) ∧ (y = 0 → u = .spot 0 ∧ r = []) := by
  cases u with
  | spot n =>
    simp [Trm.fl] at h
    obtain ⟨rfl, rfl⟩ := h
    cases n with
    | zero => simp [isEta]
    | succ n => simp [isEta]; omega
  | lam c => simp [Trm.fl] at h; simp [isEta, ← h.1]
  | app c d => simp [Trm.fl] at h; simp [isEta, ← h.1]
theorem closed_v {t : Trm} {p : Nat} (hs : Trm.sz t ≤ 20000) (hp : p < Trm.sz t) : m_law_closed_again [IT (Trm.fl t), .int p] = .ok (false, if isEta (Trm.sub t p) = true then IT (Trm.fl (und t p)) else .non) := by
  obtain ⟨pre, suf, h1, h2, h3⟩ := Trm.sub_split t p hp
  have hq := Trm.sub_sz t p hp
  have hsi := sub_in t p 2 hp
  have hl : pre.length + Trm.sz (Trm.sub t p) + suf.length = Trm.sz t := by
    have := congrArg List.length h2
    simp at this
    omega
  have hen := ends_at t 0 (p + 2)
  have lev := law_ends_v t (by omega)
  have hund : Trm.fl (und t p) = pre ++ Trm.fl (unE (Trm.sub t p)) ++ suf := h3 _
  rw [hund]
  generalize Trm.sub t p = s at *
  generalize Trm.ends 0 t = E at hen lev
  rw [h2] at lev ⊢
  match s with
  | .spot n =>
    have g : (pre ++ (n : Int) :: suf)[p]? = some (n : Int) := get_mid h1
    have n1 : ¬ (n : Int) = -1 := by omega
    simp [m_law_closed_again, mFn_2, b_law_closed_again, Trm.fl, g, n1, isEta]
  | .app a b =>
    have g : (pre ++ -2 :: (Trm.fl a ++ (Trm.fl b ++ suf)))[p]? = some (-2) := get_mid h1
    simp [m_law_closed_again, mFn_2, b_law_closed_again, Trm.fl, g, isEta]
  | .lam (.spot n) =>
    have g : (pre ++ -1 :: (n : Int) :: suf)[p]? = some (-1) := get_mid h1
    have g1 : (pre ++ -1 :: (n : Int) :: suf)[p + 1]? = some (n : Int) := by
      rw [show pre ++ -1 :: (n : Int) :: suf = (pre ++ [-1]) ++ (n : Int) :: suf by simp]
      exact get_mid (by simp [h1])
    have n1 : ¬ (n : Int) = -2 := by omega
    simp [m_law_closed_again, mFn_2, b_law_closed_again, Trm.fl, g, g1, n1, isEta]
  | .lam (.lam c) =>
    have g : (pre ++ -1 :: -1 :: (Trm.fl c ++ suf))[p]? = some (-1) := get_mid h1
    have g1 : (pre ++ -1 :: -1 :: (Trm.fl c ++ suf))[p + 1]? = some (-1) := by
      rw [show pre ++ -1 :: -1 :: (Trm.fl c ++ suf) = (pre ++ [-1]) ++ -1 :: (Trm.fl c ++ suf) by simp]
      exact get_mid (by simp [h1])
    simp [m_law_closed_again, mFn_2, b_law_closed_again, Trm.fl, g, g1, isEta]
  | .lam (.app f u) =>
    simp only [Trm.sz] at hq hsi hl
    have hz := Trm.sz_pos f
    have hz2 := Trm.sz_pos u
    have hsi := hsi (by omega)
    have hsf : Trm.sub (.lam (.app f u)) 2 = f := by
      show (if 0 < Trm.sz f then Trm.sub f 0 else _) = f
      rw [if_pos hz]
      cases f <;> rfl
    rw [hsi, hsf] at hen
    have hen := hen (by omega)
    rw [Nat.zero_add] at hen
    obtain ⟨y, r, hy⟩ : ∃ y r, Trm.fl u = y :: r := by
      cases hu : Trm.fl u with
      | nil => exact (Trm.fl_ne u hu).elim
      | cons y r => exact ⟨y, r, rfl⟩
    obtain ⟨hi, hi2⟩ := eta_head (f := f) hy
    rw [hi]
    have g : (pre ++ -1 :: -2 :: (Trm.fl f ++ (y :: (r ++ suf))))[p]? = some (-1) := get_mid h1
    have g1 : (pre ++ -1 :: -2 :: (Trm.fl f ++ (y :: (r ++ suf))))[p + 1]? = some (-2) := by
      rw [show pre ++ -1 :: -2 :: (Trm.fl f ++ (y :: (r ++ suf))) = (pre ++ [-1]) ++ -2 :: (Trm.fl f ++ (y :: (r ++ suf))) by simp]
      exact get_mid (by simp [h1])
    have g2 : (pre ++ -1 :: -2 :: (Trm.fl f ++ (y :: (r ++ suf))))[p + 2 + Trm.sz f]? = some y := by
      rw [show pre ++ -1 :: -2 :: (Trm.fl f ++ (y :: (r ++ suf))) = (pre ++ [-1, -2] ++ Trm.fl f) ++ y :: (r ++ suf) by simp]
      exact get_mid (by simp [h1]; omega)
    have c1 : cutL (pre ++ -1 :: -2 :: (Trm.fl f ++ (y :: (r ++ suf)))) none (some (p : Int)) = pre := cut_front (by rw [h1])
    have c2 : cutL (pre ++ -1 :: -2 :: (Trm.fl f ++ (y :: (r ++ suf)))) (some ((p : Int) + 2)) (some ((p + 2 + Trm.sz f : Nat) : Int)) = Trm.fl f := by
      rw [show pre ++ -1 :: -2 :: (Trm.fl f ++ (y :: (r ++ suf))) = (pre ++ [-1, -2]) ++ Trm.fl f ++ (y :: (r ++ suf)) by simp]
      exact cut_mid (by simp [h1]) (by simp [h1] <;> omega)
    have c3 : cutL (pre ++ -1 :: -2 :: (Trm.fl f ++ (y :: (r ++ suf)))) (some (((p + 2 + Trm.sz f : Nat) : Int) + 1)) none = r ++ suf := by
      rw [show pre ++ -1 :: -2 :: (Trm.fl f ++ (y :: (r ++ suf))) = (pre ++ [-1, -2] ++ Trm.fl f ++ [y]) ++ (r ++ suf) by simp]
      exact cut_back (by simp [h1] <;> omega)
    have eL : pre ++ Trm.fl (.lam (.app f u)) ++ suf = pre ++ -1 :: -2 :: (Trm.fl f ++ (y :: (r ++ suf))) := by simp [Trm.fl, hy]
    rw [eL] at lev ⊢
    have hLl : (pre ++ -1 :: -2 :: (Trm.fl f ++ (y :: (r ++ suf)))).length = Trm.sz t := by
      rw [← eL, ← h2, Trm.fl_len]
    have la := law_about_v f (by omega)
    have hcat : y = 0 → noF 0 f = true → pre ++ Trm.fl (dn 0 f) ++ (r ++ suf) = pre ++ Trm.fl (unE (.lam (.app f u))) ++ suf := by
      intro hy0 _
      obtain ⟨rfl, rfl⟩ := hi2 hy0
      rfl
    have lr : r.length + 1 = Trm.sz u := by
      have := congrArg List.length hy
      simp at this
      omega
    generalize pre ++ -1 :: -2 :: (Trm.fl f ++ (y :: (r ++ suf))) = L at *
    have key : RetX (m_law_closed_again [IT L, .int p]) (fun fr d => fr = false ∧ d = if (decide (y = 0) && noF 0 f) = true then IT (pre ++ Trm.fl (unE (.lam (.app f u))) ++ suf) else .non) NoX := by
      simp only [m_law_closed_again, mFn_2, b_law_closed_again]
      refine ret_fn fun R' X' hR hX => ?_
      have hen2 : atI E ((p : Int) + 2) = some ((p : Int) + 2 + Trm.sz f) := by rw [show (p : Int) + 2 = ((p + 2 : Nat) : Int) by omega, S.atI_nat, hen]; simp
      have c2 : cutL L (some ((p : Int) + 2)) (some ((p : Int) + 2 + Trm.sz f)) = Trm.fl f := c2
      have c3 : cutL L (some ((p : Int) + 2 + Trm.sz f + 1)) none = r ++ suf := c3
      have g2' : atI L ((p : Int) + 2 + Trm.sz f) = some y := by rw [show (p : Int) + 2 + Trm.sz f = ((p + 2 + Trm.sz f : Nat) : Int) by omega, S.atI_nat]; exact g2
      refine wp_nx1 (by simp [g, g1]; rfl) ?_
      refine wp_nx1 (by simp [lev, hen2]; rfl) ?_
      refine wp_nx1 (by simp; rfl) ?_
      simp [c2, la]
      refine wp_loop (fun xs env => ∃ (F : List Int) (b0 : Bool) (x4 x5 : Option (Bool × D)), env = [some (b0, IT L), some (false, .int p), some (false, .int ((p : Int) + 2 + Trm.sz f)), some (true, IL F), x4, x5] ∧ F ++ xs.map (Trm.mvN (-1) 1) = Trm.fl (dn 0 f) ∧ F.length + xs.length ≤ 1000000 ∧ noF 0 f = xs.all fun q => !decide (q.1 = q.2)) ?_ ?_ ?_
      · exact ⟨[], _, _, _, rfl, (dn_fl 0 f).symm, by simp; omega, noF_zip 0 f⟩
      · rintro N B R'' X'' q xs env hN hB hR' hX' ⟨F, b0, x4, x5, rfl, q1, q2, q3⟩
        obtain ⟨n, d⟩ := q
        simp at q2
        refine ⟨_, by simp [P2]; rfl, ?_⟩
        have l3 : F.length < 16777216 := by omega
        by_cases hc : n = d
        · simp [b_law_closed_again_1, hc]
          refine hR' _ _ (hR _ _ ⟨rfl, ?_⟩)
          rw [q3]; simp [hc]
        · by_cases hc2 : d < n
          · have hc3 : d + 1 ≤ n := by omega
            simp [b_law_closed_again_1, hc, hc2, l3]
            exact hN _ ⟨_, _, _, _, rfl, by rw [← q1]; simp [Trm.mvN, hc3]; omega, by simp; omega, by rw [q3]; simp [hc]⟩
          · have hc3 : ¬ d + 1 ≤ n := by omega
            simp [b_law_closed_again_1, hc, hc2, l3]
            exact hN _ ⟨_, _, _, _, rfl, by rw [← q1]; simp [Trm.mvN, hc3], by simp; omega, by rw [q3]; simp [hc]⟩
      · rintro env ⟨F, b0, x4, x5, rfl, q1, q2, q3⟩
        simp at q1 q3
        by_cases hy0 : y = 0
        · have l4 : pre.length + F.length ≤ 16777216 := by simp at q2; rw [q1] ; simp; omega
          have l5 : pre.length + F.length + (r.length + suf.length) ≤ 16777216 := by rw [q1]; simp; omega
          simp [-cutL_hi, g2', hy0, c1, c3, l4]
          refine ⟨l5, hR _ _ ⟨rfl, ?_⟩⟩
          rw [if_pos (by simp [hy0, q3]), ← hcat hy0 q3, q1]
          simp
        · simp [g2', hy0]
          exact hR _ _ ⟨rfl, by simp [hy0]⟩
    obtain ⟨_, _, e, rfl, rfl⟩ := key.ok
    exact e
theorem gNotN_IT {ns : List Int} : gNotN (IT ns) = .ok (false, .bl true) := (rfl)
theorem gNotN_no : gNotN .non = .ok (false, .bl false) := (rfl)
theorem law_openings_v {t : Trm} (h : Trm.sz t ≤ 20000) : m_law_openings [IT (Trm.fl t)] = .ok (true, IL (nI (els t))) := by
  have hl : ((els t).map fun (k : Nat) => D.int (0 + (k : Int))).length ≤ sizeLine := by
    rw [List.length_map, szl]
    refine Nat.le_trans (List.length_filter_le _ _) ?_
    rw [List.length_range]; omega
  have hr : iRange1 (eFn fLen (aCons (eVar 0) aNil)) [some (false, IT (Trm.fl t)), none] = .ok (rangeI 0 (Trm.sz t)) := iR1_e (a := (Trm.sz t : Int)) (fr := false) (by simp) (by omega) (by omega) (by omega)
  have hk : compL (S.gName 1) (tE (eUn gNotN (eFn m_law_closed_again (aCons (eVar 0) (aCons (eVar 1) aNil))))) (eVar 1) [some (false, IT (Trm.fl t)), none] (rangeI 0 (Trm.sz t)) = .ok (true, (els t).map fun (k : Nat) => D.int (0 + (k : Int))) :=
    compL_filter (dec := fun (k : Nat) => D.int (0 + (k : Int))) (xs := List.range (Trm.sz t)) (f := fun (k : Nat) => D.int (0 + (k : Int))) (p := fun p => isEta (Trm.sub t p)) (by
      intro p hp
      rw [List.mem_range] at hp
      have e := closed_v h hp
      by_cases hc : isEta (Trm.sub t p) = true
      · rw [if_pos hc] at e
        exact ⟨_, by simp; rfl, by simp [e, hc, gNotN_IT], fun _ => ⟨false, by simp, rfl⟩⟩
      · rw [if_neg hc] at e
        exact ⟨_, by simp; rfl, by simp [e, hc, gNotN_no], fun _ => ⟨false, by simp, rfl⟩⟩)
  have hc : eComp [] [1] (iRange1 (eFn fLen (aCons (eVar 0) aNil))) (S.gName 1) (tE (eUn gNotN (eFn m_law_closed_again (aCons (eVar 0) (aCons (eVar 1) aNil))))) (eVar 1) [some (false, IT (Trm.fl t)), none] = .ok (true, IL (nI (els t))) := by
    rw [eComp_ap, hr, compK_ok, show wipeE [1] (frz [] [some (false, IT (Trm.fl t)), none]) = [some (false, IT (Trm.fl t)), none] from rfl, hk, compR_ok, if_pos hl]
    have : ((els t).map fun (k : Nat) => D.int (0 + (k : Int))) = (nI (els t)).map D.int := by
      unfold nI
      rw [List.map_map]
      exact List.map_congr_left fun k _ => by simp
    rw [this]
    rfl
  have e : m_law_openings [IT (Trm.fl t)] = fnO (b_law_openings [some (false, IT (Trm.fl t)), none]) := mFn_1
  rw [e]
  unfold b_law_openings
  rw [mRet_ap, hc]
  simp

end Law

namespace Law
open PySem PySem.Spec PyProof.Rows L2 S
/-! the least form does not hang on the way -/
def mkE (b : Trm) : Trm := match b with
  | .app f (.spot 0) => if noF 0 f = true then dn 0 f else .lam b
  | _ => .lam b
def nf : Trm → Trm
  | .spot n => .spot n
  | .lam b => mkE (nf b)
  | .app t u => .app (nf t) (nf u)
theorem noF_dn : ∀ {g : Trm} {k d : Nat}, k ≤ d → noF k g = true → noF (d + 1) g = true → noF d (dn k g) = true
  | .spot n, k, d, h, h1, h2 => by
    simp [noF, dn] at *
    split <;> omega
  | .lam b, k, d, h, h1, h2 => noF_dn (g := b) (k := k + 1) (d := d + 1) (by omega) h1 h2
  | .app t u, k, d, h, h1, h2 => by
    simp only [noF, dn, Bool.and_eq_true] at *
    exact ⟨noF_dn h h1.1 h2.1, noF_dn h h1.2 h2.2⟩
theorem noF_dn2 : ∀ {g : Trm} {k d : Nat}, k ≤ d → noF k (dn (d + 1) g) = noF k g
  | .spot n, k, d, h => by
    simp only [noF, dn]
    congr 1
    rw [Bool.eq_iff_iff, decide_eq_true_iff, decide_eq_true_iff]
    split <;> omega
  | .lam b, k, d, h => noF_dn2 (g := b) (k := k + 1) (d := d + 1) (by omega)
  | .app t u, k, d, h => by
    simp only [noF, dn]
    rw [noF_dn2 h, noF_dn2 h]
theorem dn_dn : ∀ {g : Trm} {k d : Nat}, k ≤ d → noF k g = true → noF (d + 1) g = true → dn k (dn (d + 1) g) = dn d (dn k g)
  | .spot n, k, d, h, h1, h2 => by
    simp [noF] at h1 h2
    simp only [dn, Trm.spot.injEq]
    by_cases c1 : d + 1 < n
    · rw [if_pos c1, if_pos (show k < n by omega), if_pos (show k < n - 1 by omega), if_pos (show d < n - 1 by omega)]
    · rw [if_neg c1]
      by_cases c2 : k < n
      · rw [if_pos c2, if_neg (show ¬ d < n - 1 by omega)]
      · rw [if_neg c2, if_neg (show ¬ d < n by omega)]
  | .lam b, k, d, h, h1, h2 => by
    simp only [dn]
    rw [dn_dn (g := b) (k := k + 1) (d := d + 1) (by omega) h1 h2]
  | .app t u, k, d, h, h1, h2 => by
    simp only [noF, Bool.and_eq_true] at h1 h2
    simp only [dn]
    rw [dn_dn h h1.1 h2.1, dn_dn h h1.2 h2.2]
theorem mk_dn {b : Trm} {d : Nat} (h : noF (d + 1) b = true) : noF d (mkE b) = true ∧ mkE (dn (d + 1) b) = dn d (mkE b) := by
  match b, h with
  | .spot n, h => exact ⟨h, rfl⟩
  | .lam c, h => exact ⟨h, rfl⟩
  | .app g (.lam c), h => exact ⟨h, rfl⟩
  | .app g (.app x y), h => exact ⟨h, rfl⟩
  | .app g (.spot (n + 1)), h =>
    refine ⟨h, ?_⟩
    simp only [noF, Bool.and_eq_true] at h
    have h2 := h.2
    simp at h2
    simp only [dn]
    by_cases c : d + 1 < n + 1
    · rw [if_pos c]
      cases n with
      | zero => omega
      | succ n => simp [mkE, dn]; omega
    · rw [if_neg c]
      simp [mkE, dn]; omega
  | .app g (.spot 0), h =>
    simp only [noF, Bool.and_eq_true] at h
    have e : dn (d + 1) (.app g (.spot 0)) = .app (dn (d + 1) g) (.spot 0) := by simp [dn]
    rw [e]
    simp only [mkE]
    rw [noF_dn2 (Nat.zero_le d)]
    by_cases c : noF 0 g = true
    · rw [if_pos c, if_pos c]
      exact ⟨noF_dn (Nat.zero_le d) c h.1, dn_dn (Nat.zero_le d) c h.1⟩
    · rw [if_neg c, if_neg c]
      refine ⟨?_, by simp [dn]⟩
      simp [noF, h.1]
theorem nf_dn : ∀ {f : Trm} {d : Nat}, noF d f = true → noF d (nf f) = true ∧ nf (dn d f) = dn d (nf f)
  | .spot n, d, h => ⟨h, rfl⟩
  | .lam b, d, h => by
    obtain ⟨h1, h2⟩ := nf_dn (f := b) (d := d + 1) h
    simp only [nf, dn, h2]
    exact mk_dn h1
  | .app t u, d, h => by
    simp only [noF, Bool.and_eq_true] at h
    obtain ⟨h1, h2⟩ := nf_dn h.1
    obtain ⟨h3, h4⟩ := nf_dn h.2
    simp only [nf, dn, noF, h1, h2, h3, h4]
    exact ⟨by simp, by simp⟩
theorem nf_unE {s : Trm} (h : isEta s = true) : nf (unE s) = nf s := by
  obtain ⟨f, rfl, h2⟩ := eta_shape h
  obtain ⟨h3, h4⟩ := nf_dn h2
  simp only [unE, nf, mkE, h4, h3, if_true]
theorem noF_sh : ∀ {s : Trm} {d : Nat}, noF d (Trm.sh 1 0 d s) = true ∧ dn d (Trm.sh 1 0 d s) = s
  | .spot n, d => by
    simp only [Trm.sh, noF, dn, Nat.add_zero, Trm.spot.injEq]
    by_cases c : d ≤ n
    · rw [if_pos c]
      exact ⟨by simp; omega, by rw [if_pos (by omega)]; omega⟩
    · rw [if_neg c]
      exact ⟨by simp; omega, by rw [if_neg (by omega)]⟩
  | .lam b, d => by
    obtain ⟨h1, h2⟩ := noF_sh (s := b) (d := d + 1)
    simp only [Trm.sh, noF, dn, h1, h2]
    exact ⟨by simp, by simp⟩
  | .app t u, d => by
    obtain ⟨h1, h2⟩ := noF_sh (s := t) (d := d)
    obtain ⟨h3, h4⟩ := noF_sh (s := u) (d := d)
    simp only [Trm.sh, noF, dn, h1, h2, h3, h4]
    exact ⟨by simp, by simp⟩
theorem opE_eta (s : Trm) : isEta (opE s) = true ∧ unE (opE s) = s := by
  obtain ⟨h1, h2⟩ := noF_sh (s := s) (d := 0)
  exact ⟨h1, h2⟩
theorem nf_opE (s : Trm) : nf (opE s) = nf s := by
  obtain ⟨h1, h2⟩ := opE_eta s
  rw [← nf_unE h1, h2]
theorem nf_rep {s : Trm} : ∀ {t : Trm} {p : Nat}, p < Trm.sz t → nf s = nf (Trm.sub t p) → nf (Trm.rep s t p) = nf t
  | t, 0, _, h => by
    have e1 : Trm.rep s t 0 = s := by cases t <;> rfl
    have e2 : Trm.sub t 0 = t := by cases t <;> rfl
    rw [e1, h, e2]
  | .spot n, p + 1, h, _ => by simp [Trm.sz] at h
  | .lam b, p + 1, h, h2 => by
    simp only [Trm.rep, nf]
    rw [nf_rep (t := b) (p := p) (by simp [Trm.sz] at h; omega) h2]
  | .app t u, p + 1, h, h2 => by
    simp only [Trm.rep, Trm.sub] at h2 ⊢
    by_cases hp : p < Trm.sz t
    · rw [if_pos hp] at h2 ⊢
      simp only [nf]
      rw [nf_rep hp h2]
    · rw [if_neg hp] at h2 ⊢
      simp only [nf]
      rw [nf_rep (by simp [Trm.sz] at h; omega) h2]
theorem nf_und {t : Trm} {p : Nat} (hp : p < Trm.sz t) (h : isEta (Trm.sub t p) = true) : nf (und t p) = nf t := nf_rep hp (nf_unE h)
theorem nf_opn {t : Trm} {p : Nat} (hp : p < Trm.sz t) : nf (opn1 t p) = nf t := nf_rep hp (nf_opE _)
theorem nf_least : ∀ {t : Trm}, (∀ p < Trm.sz t, isEta (Trm.sub t p) = false) → nf t = t
  | .spot n, _ => rfl
  | .lam b, h => by
    have h1 : nf b = b := nf_least fun p hp => h (p + 1) (by simp [Trm.sz]; omega)
    have h2 : isEta (.lam b) = false := h 0 (by simp [Trm.sz])
    simp only [nf, h1]
    match b, h2 with
    | .app f (.spot 0), h2 =>
      have h2 : noF 0 f = false := h2
      simp [mkE, h2]
    | .app f (.spot (n + 1)), _ => rfl
    | .app f (.lam c), _ => rfl
    | .app f (.app c d), _ => rfl
    | .spot n, _ => rfl
    | .lam c, _ => rfl
  | .app t u, h => by
    have h1 : nf t = t := nf_least fun p hp => by
      have := h (p + 1) (by simp [Trm.sz]; omega)
      rwa [Trm.sub, if_pos hp] at this
    have h2 : nf u = u := nf_least fun p hp => by
      have := h (Trm.sz t + p + 1) (by simp [Trm.sz]; omega)
      rwa [Trm.sub, if_neg (by omega), show Trm.sz t + p - Trm.sz t = p by omega] at this
    simp only [nf, h1, h2]
theorem lea_end : ∀ (k : Nat) {t : Trm}, Trm.sz t ≤ k → els (lea k t).1 = [] ∧ nf (lea k t).1 = nf t ∧ Trm.sz (lea k t).1 + 3 * (lea k t).2.length = Trm.sz t
  | 0, t, h => by have := Trm.sz_pos t; omega
  | k + 1, t, h => by
    cases q : els t with
    | nil => rw [lea_nil q]; exact ⟨q, rfl, by simp⟩
    | cons p r =>
      obtain ⟨h1, h2⟩ := els_head q
      have h3 := und_sz h1 h2
      obtain ⟨a, b, c⟩ := lea_end k (t := und t p) (by omega)
      rw [lea_cons q]
      exact ⟨a, by rw [b, nf_und h1 h2], by simp; omega⟩
theorem els_nil {t : Trm} (h : els t = []) : ∀ p < Trm.sz t, isEta (Trm.sub t p) = false := by
  intro p hp
  cases q : isEta (Trm.sub t p) with
  | false => rfl
  | true =>
    have := els_mem.mpr ⟨hp, q⟩
    rw [h] at this
    simp at this
theorem lst_nf (t : Trm) : (lst t).1 = nf t := by
  obtain ⟨a, b, _⟩ := lea_end (Trm.sz t) (t := t) (Nat.le_refl _)
  rw [← b, nf_least (els_nil a)]
  rfl
theorem lst_len (t : Trm) : Trm.sz (nf t) + 3 * (lst t).2.length = Trm.sz t := by
  rw [← lst_nf]
  exact (lea_end (Trm.sz t) (t := t) (Nat.le_refl _)).2.2
theorem lst_lst (t : Trm) : lst (lst t).1 = ((lst t).1, []) := lea_nil (lea_end (Trm.sz t) (t := t) (Nat.le_refl _)).1

end Law

namespace Law
open PySem PySem.Spec PyProof.Rows L2 S
/-! the least form of a moved term -/
theorem noF_sh2 : ∀ {g : Trm} {k d : Nat}, k < d → noF k (Trm.sh 1 0 d g) = noF k g
  | .spot n, k, d, h => by
    simp only [noF, Trm.sh]
    congr 1
    rw [Bool.eq_iff_iff, decide_eq_true_iff, decide_eq_true_iff]
    split <;> omega
  | .lam b, k, d, h => noF_sh2 (g := b) (k := k + 1) (d := d + 1) (by omega)
  | .app t u, k, d, h => by
    simp only [noF, Trm.sh]
    rw [noF_sh2 h, noF_sh2 h]
theorem dn_sh2 : ∀ {g : Trm} {k d : Nat}, k ≤ d → noF k g = true → dn k (Trm.sh 1 0 (d + 1) g) = Trm.sh 1 0 d (dn k g)
  | .spot n, k, d, h, h1 => by
    simp [noF] at h1
    simp only [dn, Trm.sh, Nat.add_zero, Trm.spot.injEq]
    by_cases c1 : d + 1 ≤ n
    · rw [if_pos c1, if_pos (show k < n + 1 by omega), if_pos (show k < n by omega), if_pos (show d ≤ n - 1 by omega)]
      omega
    · rw [if_neg c1]
      by_cases c2 : k < n
      · rw [if_pos c2, if_neg (show ¬ d ≤ n - 1 by omega)]
      · rw [if_neg c2, if_neg (show ¬ d ≤ n by omega)]
  | .lam b, k, d, h, h1 => by
    simp only [dn, Trm.sh]
    rw [dn_sh2 (g := b) (k := k + 1) (d := d + 1) (by omega) h1]
  | .app t u, k, d, h, h1 => by
    simp only [noF, Bool.and_eq_true] at h1
    simp only [dn, Trm.sh]
    rw [dn_sh2 h h1.1, dn_sh2 h h1.2]
theorem mk_sh {b : Trm} {d : Nat} : mkE (Trm.sh 1 0 (d + 1) b) = Trm.sh 1 0 d (mkE b) := by
  match b with
  | .spot n => rfl
  | .lam c => rfl
  | .app g (.lam c) => rfl
  | .app g (.app x y) => rfl
  | .app g (.spot (n + 1)) =>
    simp only [Trm.sh, Nat.add_zero]
    by_cases c : d + 1 ≤ n + 1
    · rw [if_pos c]
      simp [mkE, Trm.sh]
      omega
    · rw [if_neg c]
      simp [mkE, Trm.sh]
      omega
  | .app g (.spot 0) =>
    have e : Trm.sh 1 0 (d + 1) (.app g (.spot 0)) = .app (Trm.sh 1 0 (d + 1) g) (.spot 0) := by simp [Trm.sh]
    rw [e]
    simp only [mkE]
    rw [noF_sh2 (Nat.succ_pos d)]
    by_cases c : noF 0 g = true
    · rw [if_pos c, if_pos c]
      exact dn_sh2 (Nat.zero_le d) c
    · rw [if_neg c, if_neg c]
      simp [Trm.sh]
theorem nf_sh : ∀ {t : Trm} {d : Nat}, nf (Trm.sh 1 0 d t) = Trm.sh 1 0 d (nf t)
  | .spot n, d => rfl
  | .lam b, d => by
    simp only [Trm.sh, nf]
    rw [nf_sh (t := b) (d := d + 1), mk_sh]
  | .app t u, d => by
    simp only [Trm.sh, nf]
    rw [nf_sh, nf_sh]

end Law

namespace Law
open PySem PySem.Spec PyProof.Rows L2 S
/-! a term laid out -/
def spn : Trm → Trm × List Trm
  | .app t u => ((spn t).1, (spn t).2 ++ [u])
  | t => (t, [])
def strip : Trm → Nat × Trm
  | .lam b => ((strip b).1 + 1, (strip b).2)
  | t => (0, t)
theorem spn_fl : ∀ t : Trm, Trm.fl t = List.replicate (spn t).2.length (-2) ++ Trm.fl (spn t).1 ++ ((spn t).2.map Trm.fl).flatten
  | .spot n => by simp [spn]
  | .lam b => by simp [spn]
  | .app t u => by
    have ih := spn_fl t
    show -2 :: (Trm.fl t ++ Trm.fl u) = _
    rw [ih]
    simp [spn, List.replicate_succ]
theorem strip_fl : ∀ t : Trm, Trm.fl t = List.replicate (strip t).1 (-1) ++ Trm.fl (strip t).2
  | .spot n => by simp [strip]
  | .app t u => by simp [strip]
  | .lam b => by
    have ih := strip_fl b
    show -1 :: Trm.fl b = _
    rw [ih]
    simp [strip, List.replicate_succ]
theorem strip_head : ∀ t : Trm, ∃ y r, Trm.fl (strip t).2 = y :: r ∧ y ≠ -1
  | .spot n => ⟨n, [], rfl, by omega⟩
  | .app t u => ⟨-2, _, rfl, by omega⟩
  | .lam b => strip_head b
theorem spn_head : ∀ t : Trm, ∃ y r, Trm.fl (spn t).1 = y :: r ∧ y ≠ -2
  | .spot n => ⟨n, [], rfl, by omega⟩
  | .app t u => spn_head t
  | .lam b => ⟨-1, _, rfl, by omega⟩
/-- turns, head, parts -/
def lay (t : Trm) : Nat × Trm × List Trm := ((strip t).1, (spn (strip t).2).1, (spn (strip t).2).2)
def layD (t : Trm) : D := .tup [.int ((lay t).1 : Int), IT (Trm.fl (lay t).2.1), Ls (Tp D.int) ((lay t).2.2.map Trm.fl)]
theorem lay_fl (t : Trm) : Trm.fl t = List.replicate (lay t).1 (-1) ++ (List.replicate (lay t).2.2.length (-2) ++ (Trm.fl (lay t).2.1 ++ ((lay t).2.2.map Trm.fl).flatten)) := by
  have h1 := strip_fl t
  have h2 := spn_fl (strip t).2
  rw [h2] at h1
  rw [h1]
  simp [lay]
theorem lay_1 (t : Trm) : (∀ i < (lay t).1, (Trm.fl t)[i]? = some (-1)) ∧ ∃ y, (Trm.fl t)[(lay t).1]? = some y ∧ y ≠ -1 := by
  have h1 := strip_fl t
  obtain ⟨y, r, h2, h3⟩ := strip_head t
  rw [h2] at h1
  refine ⟨fun i hi => ?_, y, ?_, h3⟩
  · have hi' : i < (strip t).1 := hi
    rw [h1, List.getElem?_append_left (by simpa using hi'), List.getElem?_replicate, if_pos hi']
  · rw [h1]
    exact get_mid (by simp [lay])
theorem lay_2 (t : Trm) : (∀ i, (lay t).1 ≤ i → i < (lay t).1 + (lay t).2.2.length → (Trm.fl t)[i]? = some (-2)) ∧ ∃ y, (Trm.fl t)[(lay t).1 + (lay t).2.2.length]? = some y ∧ y ≠ -2 := by
  have h1 := lay_fl t
  obtain ⟨y, r, h2, h3⟩ := spn_head (strip t).2
  have h2' : Trm.fl (lay t).2.1 = y :: r := h2
  rw [h2'] at h1
  refine ⟨fun i h4 h5 => ?_, y, ?_, h3⟩
  · rw [h1, List.getElem?_append_right (by simpa using h4), List.getElem?_append_left (by simp; omega), List.getElem?_replicate, if_pos (by simp; omega)]
  · rw [h1, ← List.append_assoc]
    exact get_mid (by simp)
/-- how many numbers parts have together -/
def fll : List Trm → Nat
  | [] => 0
  | u :: r => Trm.sz u + fll r
theorem fll_snoc (u : Trm) : ∀ A : List Trm, fll (A ++ [u]) = fll A + Trm.sz u
  | [] => by simp [fll]
  | a :: A => by simp [fll, fll_snoc u A]; omega
theorem fll_len : ∀ A : List Trm, ((A.map Trm.fl).flatten).length = fll A
  | [] => rfl
  | a :: A => by rw [List.map_cons, List.flatten_cons, List.length_append, fll_len A, Trm.fl_len]; rfl
/-! a term given things -/
def gft (t : Trm) (us : List Trm) : Trm := us.foldl (fun a u => .app a u) t
theorem gft_snoc (t : Trm) (us : List Trm) (u : Trm) : gft t (us ++ [u]) = .app (gft t us) u := by simp [gft]
theorem gft_fl : ∀ (us : List Trm) (t : Trm), Trm.fl (gft t us) = List.replicate us.length (-2) ++ Trm.fl t ++ (us.map Trm.fl).flatten
  | [], t => by simp [gft]
  | u :: us, t => by
    have ih := gft_fl us (.app t u)
    show Trm.fl (gft (.app t u) us) = _
    rw [ih]
    simp only [Trm.fl, List.length_cons, List.map_cons, List.flatten_cons, List.replicate_succ']
    simp

end Law

namespace Law
open PySem PySem.Spec PyProof.Rows L2 S
/-! forms deepened -/
def dpn : Nat → Trm → Trm
  | 0, t => t
  | d + 1, t => lams ((lay t).1 + 1) (.app (gft (Trm.sh 1 0 0 (lay t).2.1) ((lay t).2.2.map fun u => dpn d (Trm.sh 1 0 0 u))) (dpn d (.spot 0)))
theorem strip_lams : ∀ t : Trm, t = lams (strip t).1 (strip t).2
  | .spot n => rfl
  | .app t u => rfl
  | .lam b => by
    have := strip_lams b
    show Trm.lam b = .lam (lams (strip b).1 (strip b).2)
    rw [← this]
theorem spn_gft : ∀ t : Trm, t = gft (spn t).1 (spn t).2
  | .spot n => rfl
  | .lam b => rfl
  | .app t u => by
    have := spn_gft t
    show Trm.app t u = gft (spn t).1 ((spn t).2 ++ [u])
    rw [gft_snoc, ← this]
theorem lay_eq (t : Trm) : t = lams (lay t).1 (gft (lay t).2.1 (lay t).2.2) := by
  show t = lams (strip t).1 (gft (spn (strip t).2).1 (spn (strip t).2).2)
  rw [← spn_gft, ← strip_lams]
theorem nf_lams {a b : Trm} (h : nf a = nf b) : ∀ n, nf (lams n a) = nf (lams n b)
  | 0 => h
  | n + 1 => by simp only [lams, nf, nf_lams h n]
theorem nf_gft {us vs : List Trm} : ∀ {t s : Trm}, nf t = nf s → us.map nf = vs.map nf → nf (gft t us) = nf (gft s vs) := by
  induction us generalizing vs with
  | nil =>
    intro t s h h2
    cases vs with
    | nil => exact h
    | cons v vs => simp at h2
  | cons u us ih =>
    intro t s h h2
    cases vs with
    | nil => simp at h2
    | cons v vs =>
      simp only [List.map_cons, List.cons.injEq] at h2
      exact ih (t := .app t u) (s := .app s v) (by simp only [nf, h, h2.1]) h2.2
theorem sh_gft {d : Nat} : ∀ {us : List Trm} {t : Trm}, Trm.sh 1 0 d (gft t us) = gft (Trm.sh 1 0 d t) (us.map (Trm.sh 1 0 d))
  | [], t => rfl
  | u :: us, t => sh_gft (us := us) (t := .app t u)
theorem lams_in (t : Trm) : ∀ n, lams (n + 1) t = lams n (.lam t)
  | 0 => rfl
  | n + 1 => by
    show Trm.lam (lams (n + 1) t) = .lam (lams n (.lam t))
    rw [lams_in t n]
theorem nf_dpn : ∀ (d : Nat) (t : Trm), nf (dpn d t) = nf t
  | 0, t => rfl
  | d + 1, t => by
    have e1 := nf_dpn d (.spot 0)
    rw [dpn, lams_in]
    conv => rhs; rw [lay_eq t]
    refine nf_lams ?_ _
    have e2 : nf (gft (Trm.sh 1 0 0 (lay t).2.1) ((lay t).2.2.map fun u => dpn d (Trm.sh 1 0 0 u))) = nf (Trm.sh 1 0 0 (gft (lay t).2.1 (lay t).2.2)) := by
      rw [sh_gft]
      refine nf_gft rfl ?_
      rw [List.map_map, List.map_map]
      exact List.map_congr_left fun u _ => nf_dpn d (Trm.sh 1 0 0 u)
    have e3 : nf (.lam (.app (gft (Trm.sh 1 0 0 (lay t).2.1) ((lay t).2.2.map fun u => dpn d (Trm.sh 1 0 0 u))) (dpn d (.spot 0)))) = nf (opE (gft (lay t).2.1 (lay t).2.2)) := by
      show mkE (.app (nf _) (nf (dpn d (.spot 0)))) = mkE (.app (nf _) (nf (.spot 0)))
      rw [e1, e2]
    rw [e3, nf_opE]
theorem deeper_sz : ∀ (d : Nat) (t : Trm), Trm.sz (dpn d t) ≤ (3 * d + 1) * Trm.sz t
  | 0, t => by simp [dpn]
  | d + 1, t => by
    have e1 := deeper_sz d (.spot 0)
    have key : ∀ us : List Trm, fll (us.map fun u => dpn d (Trm.sh 1 0 0 u)) ≤ (3 * d + 1) * fll us := by
      intro us
      induction us with
      | nil => simp [fll]
      | cons u us ih =>
        have := deeper_sz d (Trm.sh 1 0 0 u)
        rw [Trm.sh_sz] at this
        simp only [List.map_cons, fll, Nat.mul_add]
        omega
    have hk := key (lay t).2.2
    have hl := congrArg List.length (lay_fl t)
    rw [List.length_append, List.length_append, List.length_append, fll_len, Trm.fl_len, Trm.fl_len, List.length_replicate, List.length_replicate] at hl
    have hz := Trm.sz_pos (lay t).2.1
    have gs : ∀ (us : List Trm) (t : Trm), Trm.sz (gft t us) = Trm.sz t + us.length + fll us := by
      intro us
      induction us with
      | nil => intro t; simp [gft, fll]
      | cons u us ih =>
        intro t
        have := ih (.app t u)
        show Trm.sz (gft (.app t u) us) = _
        rw [this]; simp [fll, Trm.sz]; omega
    rw [dpn, lams_sz]
    simp only [Trm.sz, gs, Trm.sh_sz, List.length_map]
    simp only [Trm.sz] at e1
    rw [hl]
    generalize (lay t).1 = m at *
    generalize (lay t).2.2.length = k at *
    generalize Trm.sz (lay t).2.1 = z at *
    generalize fll (lay t).2.2 = f at *
    have h1 : (3 * (d + 1) + 1) * (m + (k + (z + f))) = (3 * d + 1) * f + 3 * f + (3 * d + 4) * (m + k + z) := by
      rw [show 3 * (d + 1) + 1 = 3 * d + 1 + 3 by omega]
      simp only [Nat.add_mul, Nat.mul_add]
      omega
    have h2 : (3 * d + 4) * 1 ≤ (3 * d + 4) * z := Nat.mul_le_mul_left _ hz
    have h3 : (3 * d + 4) * (m + k + z) = (3 * d + 4) * m + (3 * d + 4) * k + (3 * d + 4) * z := by simp only [Nat.mul_add]
    have h4 : m ≤ (3 * d + 4) * m := Nat.le_mul_of_pos_left _ (by omega)
    have h5 : k ≤ (3 * d + 4) * k := Nat.le_mul_of_pos_left _ (by omega)
    have h6 : z + (3 * d + 3) ≤ (3 * d + 4) * z := by
      have : (3 * d + 4) * z = z + (3 * d + 3) * z := by rw [show 3 * d + 4 = (3 * d + 3) + 1 by omega, Nat.add_mul]; omega
      have : (3 * d + 3) * 1 ≤ (3 * d + 3) * z := Nat.mul_le_mul_left _ hz
      omega
    omega

end Law

namespace Law
open PySem PySem.Spec PyProof.Rows L2 S
/-! the program's deepening -/
theorem lay_len2 (t : Trm) : (lay t).1 + ((lay t).2.2.length + (Trm.sz (lay t).2.1 + fll (lay t).2.2)) = Trm.sz t := by
  have := congrArg List.length (lay_fl t)
  rw [List.length_append, List.length_append, List.length_append, fll_len, Trm.fl_len, Trm.fl_len, List.length_replicate, List.length_replicate] at this
  omega
theorem lay_fit {m : Nat} {t : Trm} (h : Trm.fit m t) : Trm.fit m (lay t).2.1 ∧ ∀ u ∈ (lay t).2.2, Trm.fit m u := by
  rw [Trm.fit_iff] at h
  have e := lay_fl t
  refine ⟨Trm.fit_iff.mpr fun n hn => h n (by rw [e]; simp [hn]), fun u hu => Trm.fit_iff.mpr fun n hn => h n ?_⟩
  rw [e]
  simp only [List.mem_append, List.mem_flatten, List.mem_map]
  exact .inr (.inr (.inr ⟨_, ⟨u, hu, rfl⟩, hn⟩))
theorem fll_mem2 {u : Trm} : ∀ {us : List Trm}, u ∈ us → Trm.sz u ≤ fll us
  | v :: us, h => by
    rw [List.mem_cons] at h
    rw [fll]
    rcases h with rfl | h
    · omega
    · have := fll_mem2 h; omega
theorem fll_map_le {d : Nat} : ∀ us : List Trm, fll (us.map fun u => dpn d (Trm.sh 1 0 0 u)) ≤ (3 * d + 1) * fll us
  | [] => by simp [fll]
  | u :: us => by
    have h1 := deeper_sz d (Trm.sh 1 0 0 u)
    have h2 := fll_map_le (d := d) us
    rw [Trm.sh_sz] at h1
    simp only [List.map_cons, fll, Nat.mul_add]
    omega
end Law

namespace Law
open PySem PySem.Spec PyProof.Rows L2 S
/-! deepened, as the program has it -/
theorem fit_99e (t : Trm) : (99 < maxI (Trm.fl t)) ↔ ¬ Trm.fit 99 t := by
  rw [Trm.fit_iff, ← Int.not_le, maxI_fl]; rfl
end Law

namespace Law
open PySem PySem.Spec PyProof.Rows L2 S
/-! a deepened form is a last form -/
def isLm : Trm → Bool
  | .lam _ => true
  | _ => false
def noR : Trm → Bool
  | .spot _ => true
  | .lam b => noR b
  | .app t u => !isLm t && (noR t && noR u)
theorem red_lm (t u : Trm) : Trm.isRed (.app t u) = isLm t := by cases t <;> rfl
theorem noR_sub : ∀ {t : Trm} {p : Nat}, p < Trm.sz t → noR t = true → Trm.isRed (Trm.sub t p) = false
  | .spot n, 0, _, _ => rfl
  | .spot n, p + 1, h, _ => by simp [Trm.sz] at h
  | .lam b, 0, _, _ => rfl
  | .lam b, p + 1, h, q => noR_sub (t := b) (p := p) (by simp [Trm.sz] at h; omega) q
  | .app t u, 0, _, q => by
    simp only [noR, Bool.and_eq_true, Bool.not_eq_true'] at q
    show Trm.isRed (.app t u) = false
    rw [red_lm]; exact q.1
  | .app t u, p + 1, h, q => by
    simp only [noR, Bool.and_eq_true, Bool.not_eq_true'] at q
    simp only [Trm.sub]
    by_cases hp : p < Trm.sz t
    · rw [if_pos hp]; exact noR_sub hp q.2.1
    · rw [if_neg hp]; exact noR_sub (by simp [Trm.sz] at h; omega) q.2.2
theorem noR_rds {t : Trm} (h : noR t = true) : rds t = [] := by
  cases q : rds t with
  | nil => rfl
  | cons p r =>
    obtain ⟨h1, h2⟩ := rds_mem.mp (show p ∈ rds t by rw [q]; simp)
    rw [noR_sub h1 h] at h2
    simp at h2
theorem noR_lams {t : Trm} : ∀ n, noR (lams n t) = noR t
  | 0 => rfl
  | n + 1 => noR_lams n
theorem isLm_gft : ∀ {us : List Trm} {t : Trm}, isLm t = false → isLm (gft t us) = false
  | [], t, h => h
  | u :: us, t, _ => isLm_gft (us := us) (t := .app t u) rfl
theorem noR_gft : ∀ {us : List Trm} {t : Trm}, isLm t = false → noR t = true → (∀ u ∈ us, noR u = true) → noR (gft t us) = true
  | [], t, _, h, _ => h
  | u :: us, t, h0, h, hu => noR_gft (us := us) (t := .app t u) rfl (by simp [noR, h0, h, hu u (by simp)]) fun x hx => hu x (by simp [hx])
theorem noR_sh {m d : Nat} : ∀ {t : Trm}, noR t = true → noR (Trm.sh m 0 d t) = true := by
  intro t
  induction t generalizing d with
  | spot n => intro _; rfl
  | lam b ih => intro h; exact ih h
  | app t u ih1 ih2 =>
    intro h
    simp only [noR, Bool.and_eq_true, Bool.not_eq_true'] at h
    simp only [Trm.sh, noR, Bool.and_eq_true, Bool.not_eq_true']
    exact ⟨by cases t <;> first | rfl | exact h.1, ih1 h.2.1, ih2 h.2.2⟩
theorem noR_spn : ∀ {t : Trm}, isLm t = false → noR t = true → (∃ n, (spn t).1 = .spot n) ∧ ∀ u ∈ (spn t).2, noR u = true
  | .spot n, _, _ => ⟨⟨n, rfl⟩, by simp [spn]⟩
  | .lam b, h, _ => by simp [isLm] at h
  | .app t u, _, h => by
    simp only [noR, Bool.and_eq_true, Bool.not_eq_true'] at h
    obtain ⟨h1, h2⟩ := noR_spn h.1 h.2.1
    refine ⟨h1, fun x hx => ?_⟩
    rw [spn, List.mem_append, List.mem_singleton] at hx
    rcases hx with hx | rfl
    · exact h2 x hx
    · exact h.2.2
theorem strip_no : ∀ {t : Trm}, noR t = true → isLm (strip t).2 = false ∧ noR (strip t).2 = true
  | .spot n, h => ⟨rfl, h⟩
  | .app t u, h => ⟨rfl, h⟩
  | .lam b, h => strip_no (t := b) h
theorem noR_dpn : ∀ (d : Nat) {t : Trm}, noR t = true → noR (dpn d t) = true
  | 0, t, h => h
  | d + 1, t, h => by
    obtain ⟨h1, h2⟩ := strip_no h
    obtain ⟨⟨n, h3⟩, h4⟩ := noR_spn h1 h2
    have h3 : (lay t).2.1 = .spot n := h3
    have h4 : ∀ u ∈ (lay t).2.2, noR u = true := h4
    rw [dpn, noR_lams, h3]
    have hl : isLm (gft (Trm.sh 1 0 0 (.spot n)) ((lay t).2.2.map fun u => dpn d (Trm.sh 1 0 0 u))) = false := isLm_gft rfl
    simp only [noR, hl, Bool.not_false, Bool.true_and, Bool.and_eq_true]
    refine ⟨noR_gft rfl rfl fun u hu => ?_, noR_dpn d rfl⟩
    rw [List.mem_map] at hu
    obtain ⟨v, hv, rfl⟩ := hu
    exact noR_dpn d (noR_sh (h4 v hv))

end Law

namespace Law
open PySem PySem.Spec PyProof.Rows L2 S
/-! the law's own last forms, by numbers -/
theorem fb_at {n : Nat} {m : Int} : ∀ {i : Nat}, i < n → (List.replicate n [m, m, (840 : Int)]).flatten[3 * i]? = some m ∧ (List.replicate n [m, m, (840 : Int)]).flatten[3 * i + 1]? = some m ∧ (List.replicate n [m, m, (840 : Int)]).flatten[3 * i + 2]? = some 840 := by
  induction n with
  | zero => intro i h; omega
  | succ n ih =>
    intro i h
    rw [List.replicate_succ, List.flatten_cons]
    cases i with
    | zero => exact ⟨rfl, rfl, rfl⟩
    | succ i =>
      have := ih (i := i) (by omega)
      rw [show 3 * (i + 1) = 3 * i + 3 by omega]
      exact this
theorem fb_len (n : Nat) (m : Int) : (List.replicate n [m, m, (840 : Int)]).flatten.length = 3 * n := by
  induction n with
  | zero => rfl
  | succ n ih => rw [List.replicate_succ, List.flatten_cons, List.length_append, ih]; simp; omega
theorem fb_mem {n : Nat} {m b : Int} (h : b ∈ (List.replicate n [m, m, (840 : Int)]).flatten) : b = m ∨ b = 840 := by
  rw [List.mem_flatten] at h
  obtain ⟨l, h1, h2⟩ := h
  rw [List.eq_of_mem_replicate h1] at h2
  simpa using h2
theorem gft_ob {k : Nat} : ∀ {us : List Trm} {t : Trm}, Trm.ob k t → (∀ u ∈ us, Trm.ob k u) → Trm.ob k (gft t us)
  | [], t, h, _ => h
  | u :: us, t, h, hu => gft_ob (us := us) (t := .app t u) ⟨h, hu u (by simp)⟩ fun x hx => hu x (by simp [hx])
def PreN (k : Nat) (f w : List Int) : Prop := (∀ n ∈ w, 0 ≤ n) ∧ ∀ us : List Trm, us.length = w.length → (∀ p ∈ us.zip w.reverse, Trm.ob (p.2.toNat + k) p.1 ∧ noR p.1 = true) → ∃ t, Trm.ob k t ∧ noR t = true ∧ Trm.fl t = f ++ (us.map Trm.fl).flatten
theorem PreN.start {k : Nat} : PreN k [] [0] := ⟨by simp, fun us h q => by
  match us, h with
  | [u], _ =>
    obtain ⟨q1, q2⟩ := q (u, 0) (by simp)
    exact ⟨u, by simpa using q1, q2, by simp⟩⟩
theorem PreN.step {k : Nat} {f w : List Int} {h n : Int} (a b : Nat) (p : PreN k f (w ++ [h])) (h0 : 0 ≤ n) (h1 : n < h + a + k) : PreN k (f ++ (List.replicate a (-1) ++ List.replicate b (-2)) ++ [n]) (w ++ List.replicate b (h + a)) := by
  have hh := p.1 h (by simp)
  refine ⟨fun n hn => ?_, fun us e q => ?_⟩
  · rw [List.mem_append, List.mem_replicate] at hn
    rcases hn with z | z
    · exact p.1 n (by simp [z])
    · omega
  obtain ⟨U, V, rfl, hU⟩ : ∃ U V, us = U ++ V ∧ U.length = b := ⟨us.take b, us.drop b, (List.take_append_drop _ _).symm, by simp at e ⊢; omega⟩
  have hV : V.length = w.length := by simp [hU] at e; omega
  rw [List.reverse_append, List.reverse_replicate, List.zip_append (by simp [hU])] at q
  have q1 : ∀ u ∈ U, Trm.ob ((h + a).toNat + k) u ∧ noR u = true := fun u hu => by
    obtain ⟨i, hi, rfl⟩ := List.mem_iff_getElem.mp hu
    have : (U[i], h + (a : Int)) ∈ U.zip (List.replicate b (h + (a : Int))) := by
      rw [List.mem_iff_getElem]
      refine ⟨i, by simp; omega, ?_⟩
      simp
    exact q (U[i], h + (a : Int)) (List.mem_append_left _ this)
  obtain ⟨t, h2, h3, h4⟩ := p.2 (lams a (gft (.spot n.toNat) U) :: V) (by simp; omega) (fun x hx => by
    rw [List.reverse_append, List.reverse_singleton, List.singleton_append, List.zip_cons_cons, List.mem_cons] at hx
    rcases hx with rfl | hx
    · refine ⟨lams_ob a ?_, ?_⟩
      · rw [show (lams a (gft (.spot n.toNat) U), h).2.toNat + k + a = (h + a).toNat + k by show h.toNat + k + a = _; omega]
        exact gft_ob (by show n.toNat < _; omega) fun u hu => (q1 u hu).1
      · show noR (lams a _) = true
        rw [noR_lams]
        exact noR_gft rfl rfl fun u hu => (q1 u hu).2
    · exact q x (List.mem_append_right _ hx))
  refine ⟨t, h2, h3, ?_⟩
  rw [h4, List.map_cons, List.flatten_cons, lams_fl, gft_fl, hU]
  simp [Trm.fl]; omega
theorem PreN.fin {k : Nat} {f : List Int} (p : PreN k f []) : ∃ t, Trm.ob k t ∧ noR t = true ∧ Trm.fl t = f := by
  obtain ⟨t, h1, h2, h3⟩ := p.2 [] rfl (by simp)
  exact ⟨t, h1, h2, by simpa using h3⟩
theorem wp_ift {c : S.Env → Rs Bool} {a b : S.Env → Out} {e : S.Env} {N C B : S.Env → Prop} {R : Bool → D → Prop} {X : Str → Option D → Prop} (h1 : c e = .ok true) (h2 : Wp (a e) N C B R X) : Wp (mIf c a b e) N C B R X := by
  rw [mIf_ap, h1]; exact h2
theorem minI {a b : Int} (ha : 0 ≤ a) (hb : 0 ≤ b) : ∃ n : Nat, (if b < a then b else a) = (n : Int) ∧ (n : Int) ≤ a ∧ (n : Int) ≤ b := by
  split
  · exact ⟨b.toNat, by omega, by omega, by omega⟩
  · exact ⟨a.toNat, by omega, by omega, by omega⟩
end Law

namespace Law
open PySem PySem.Spec PyProof.Rows L2 S
/-! forms changed at a place -/
/-- a number of a form put otherwise -/
theorem noR_rep {s : Trm} (hs : noR s = true) : ∀ {t : Trm} {p : Nat}, p < Trm.sz t → noR t = true → (p = 0 ∨ (Trm.fl t)[p - 1]? ≠ some (-2)) → noR (Trm.rep s t p) = true
  | .spot n, 0, _, _, _ => hs
  | .lam b, 0, _, _, _ => hs
  | .app t u, 0, _, _, _ => hs
  | .spot n, p + 1, h, _, _ => by simp [Trm.sz] at h
  | .lam b, p + 1, h, hn, hc => by
    have hc : (Trm.fl (.lam b))[p]? ≠ some (-2) := by simpa using hc
    refine noR_rep hs (t := b) (p := p) (by simp [Trm.sz] at h; omega) hn ?_
    cases p with
    | zero => exact .inl rfl
    | succ q => exact .inr (by simpa [Trm.fl] using hc)
  | .app t u, p + 1, h, hn, hc => by
    have hc : (Trm.fl (.app t u))[p]? ≠ some (-2) := by simpa using hc
    simp only [noR, Bool.and_eq_true, Bool.not_eq_true'] at hn
    simp only [Trm.sz] at h
    simp only [Trm.rep]
    by_cases hp : p < Trm.sz t
    · rw [if_pos hp]
      cases p with
      | zero => exact absurd rfl hc
      | succ q =>
        have hc2 : (Trm.fl t)[q]? ≠ some (-2) := by
          have hc : (Trm.fl t ++ Trm.fl u)[q]? ≠ some (-2) := by simpa [Trm.fl] using hc
          rwa [List.getElem?_append_left (by rw [Trm.fl_len]; omega)] at hc
        have ih := noR_rep hs (t := t) (p := q + 1) hp hn.2.1 (.inr (by simpa using hc2))
        have hl : isLm (Trm.rep s t (q + 1)) = isLm t := by
          cases t with
          | spot n => simp [Trm.sz] at hp
          | lam b => rfl
          | app a b => simp only [Trm.rep]; split <;> rfl
        simp only [noR, hl, hn.1, ih, hn.2.2]; rfl
    · rw [if_neg hp]
      have ih := noR_rep hs (t := u) (p := p - Trm.sz t) (by omega) hn.2.2 (by
        by_cases hz : p - Trm.sz t = 0
        · exact .inl hz
        · refine .inr ?_
          obtain ⟨q, rfl⟩ : ∃ q, p = q + 1 := ⟨p - 1, by omega⟩
          have hc : (Trm.fl t ++ Trm.fl u)[q]? ≠ some (-2) := by simpa [Trm.fl] using hc
          rw [List.getElem?_append_right (by rw [Trm.fl_len]; omega), Trm.fl_len] at hc
          rw [show q + 1 - Trm.sz t - 1 = q - Trm.sz t by omega]
          exact hc)
      simp only [noR, hn.1, hn.2.1, ih]; rfl
theorem fit_rep {m : Nat} {s : Trm} : ∀ {t : Trm} {p : Nat}, p < Trm.sz t → Trm.fit m t → Trm.fit m s → Trm.fit m (Trm.rep s t p)
  | .spot n, 0, _, _, hs => hs
  | .lam b, 0, _, _, hs => hs
  | .app t u, 0, _, _, hs => hs
  | .spot n, p + 1, h, _, _ => by simp [Trm.sz] at h
  | .lam b, p + 1, h, hf, hs => fit_rep (t := b) (by simp [Trm.sz] at h; omega) hf hs
  | .app t u, p + 1, h, hf, hs => by
    simp only [Trm.sz] at h
    simp only [Trm.rep]
    split
    · exact ⟨fit_rep (by omega) hf.1 hs, hf.2⟩
    · exact ⟨hf.1, fit_rep (by omega) hf.2 hs⟩
theorem fit_sub {m : Nat} : ∀ {t : Trm} {p : Nat}, p < Trm.sz t → Trm.fit m t → Trm.fit m (Trm.sub t p)
  | .spot n, 0, _, hf => hf
  | .lam b, 0, _, hf => hf
  | .app t u, 0, _, hf => hf
  | .spot n, p + 1, h, _ => by simp [Trm.sz] at h
  | .lam b, p + 1, h, hf => fit_sub (t := b) (by simp [Trm.sz] at h; omega) hf
  | .app t u, p + 1, h, hf => by
    simp only [Trm.sz] at h
    simp only [Trm.sub]
    split
    · exact fit_sub (by omega) hf.1
    · exact fit_sub (by omega) hf.2
theorem isLm_sh {m d : Nat} : ∀ {t : Trm}, isLm (Trm.sh m 0 d t) = isLm t
  | .spot _ => rfl
  | .lam _ => rfl
  | .app _ _ => rfl
theorem isLm_sub {t : Trm} {p : Nat} (hp : p < Trm.sz t) (h : (Trm.fl t)[p]? ≠ some (-1)) : isLm (Trm.sub t p) = false := by
  obtain ⟨pre, suf, h1, h2, _⟩ := Trm.sub_split t p hp
  cases hs : Trm.sub t p with
  | lam b =>
    rw [hs] at h2
    subst h1
    rw [h2, List.append_assoc, List.getElem?_append_right (Nat.le_refl _)] at h
    simp [Trm.fl] at h
  | spot n => rfl
  | app a b => rfl
theorem noR_sub1 {t : Trm} : ∀ {p : Nat}, p < Trm.sz t → noR t = true → noR (Trm.sub t p) = true := by
  induction t with
  | spot n => intro p h _; cases p <;> rfl
  | lam b ih =>
    intro p h hn
    cases p with
    | zero => exact hn
    | succ p => exact ih (by simp [Trm.sz] at h; omega) hn
  | app a b ih1 ih2 =>
    intro p h hn
    cases p with
    | zero => exact hn
    | succ p =>
      simp only [noR, Bool.and_eq_true] at hn
      simp only [Trm.sz] at h
      simp only [Trm.sub]
      split
      · exact ih1 (by omega) hn.2.1
      · exact ih2 (by omega) hn.2.2
theorem noR_opn {t : Trm} {p : Nat} (hp : p < Trm.sz t) (hn : noR t = true) (h1 : (Trm.fl t)[p]? ≠ some (-1)) (h2 : p = 0 ∨ (Trm.fl t)[p - 1]? ≠ some (-2)) : noR (opn1 t p) = true := by
  refine noR_rep ?_ hp hn h2
  unfold opE
  simp only [noR, isLm_sh, isLm_sub hp h1, noR_sh (noR_sub1 hp hn)]
  rfl
theorem noR_rep_n {s : Trm} (hs : noR s = true) (hl : isLm s = false) : ∀ {t : Trm} {p : Nat}, p < Trm.sz t → noR t = true → noR (Trm.rep s t p) = true ∧ (isLm t = false → isLm (Trm.rep s t p) = false)
  | .spot n, 0, _, _ => ⟨hs, fun _ => hl⟩
  | .lam b, 0, _, _ => ⟨hs, fun _ => hl⟩
  | .app t u, 0, _, _ => ⟨hs, fun _ => hl⟩
  | .spot n, p + 1, h, _ => by simp [Trm.sz] at h
  | .lam b, p + 1, h, hn => ⟨(noR_rep_n hs hl (t := b) (p := p) (by simp [Trm.sz] at h; omega) hn).1, fun z => z⟩
  | .app t u, p + 1, h, hn => by
    simp only [noR, Bool.and_eq_true, Bool.not_eq_true'] at hn
    simp only [Trm.sz] at h
    simp only [Trm.rep]
    by_cases hp : p < Trm.sz t
    · rw [if_pos hp]
      obtain ⟨a, b⟩ := noR_rep_n hs hl hp hn.2.1
      exact ⟨by simp only [noR, a, b hn.1, hn.2.2]; rfl, fun _ => rfl⟩
    · rw [if_neg hp]
      obtain ⟨a, b⟩ := noR_rep_n hs hl (t := u) (p := p - Trm.sz t) (by omega) hn.2.2
      exact ⟨by simp only [noR, hn.1, hn.2.1, a]; rfl, fun _ => rfl⟩
/-- a form that the law makes -/
def Fm (n m : Nat) (t : Trm) : Prop := noR t = true ∧ Trm.sz t ≤ n ∧ Trm.fit m t
theorem Fm.ok {n m : Nat} {t : Trm} (h : Fm n m t) (hn : n ≤ 200) (hm : m ≤ 9999) : Ok t := ⟨by have := h.2.1; omega, Trm.fit_mono hm h.2.2⟩

end Law

namespace Law
open PySem PySem.Spec PyProof.Rows L2 S
/-! the law: openings, undone -/
def Scr (d : D) (ns : List Int) : Prop := d = .scr ns ∨ d = .lst (ns.map D.int)
theorem Scr.cell {d : D} {ns : List Int} (h : Scr d ns) {k : Nat} (hk : k ≤ 1000) : ∃ c, m_law_cell_at [d, .int k] = .ok (false, .int c) := by
  rcases h with rfl | rfl
  · exact cell_v hk
  · have hl : Nat.log2 3 + k.log2 < 1000000 := by
      set_option exponentiation.threshold 500 in
      exact lg2 (by decide) (by omega)
    have hs : fSum [.lst (ns.map D.int)] = .ok (false, .int ns.sum) := fSum_IL
    simp [m_law_cell_at, b_law_cell_at, mFn_2]
    split
    · rename_i h
      simp [List.getElem?_eq_getElem h]
    · simp [hl, hs, show Nat.log2 999999937 < 9000 by decide]
theorem neStr (a : Str) (h : PyData.strOk a = true) : gNe (.str a) (.str a) = .ok (false, .bl false) := by rw [gNe_str h h]; simp
theorem hT : tblHow "NoTerm" none = some (.str "NoTerm") := rfl
theorem hS : tblHow "NoSize" none = some (.str "NoSize") := rfl
theorem hP : tblHow "NoPlace" none = some (.str "NoPlace") := rfl
theorem hO : tblHow "NoOpening" none = some (.str "NoOpening") := rfl
theorem okT : PyData.strOk "NoTerm" = true := by decide +kernel
theorem okS : PyData.strOk "NoSize" = true := by decide +kernel
theorem okP : PyData.strOk "NoPlace" = true := by decide +kernel
theorem okO : PyData.strOk "NoOpening" = true := by decide +kernel
theorem undone_no {t : Trm} {p : Nat} (ho : Ok t) (hp : p < Trm.sz t) (h : isEta (Trm.sub t p) = false) : m_undone [IT (Trm.fl t), .int p] = .ex "NoOpening" none := by
  have e0 := look_term_tm ho
  have e1 := look_opening_n ho.1 hp h
  simp [m_undone, mFn_2, b_undone, e0, e1]
theorem undone_place {t : Trm} {y : D} (h : Ok t) (hy : okD y = true) (hn : ∀ n : Int, y = .int n → ¬ (0 ≤ n ∧ n < Trm.sz t)) : m_undone [IT (Trm.fl t), y] = .ex "NoPlace" none := by
  have e1 := look_term_tm h
  have e2 := look_place_v (xs := Trm.fl t) hy
  have e3 : m_look_place [y, IT (Trm.fl t)] = .ex "NoPlace" none := by
    rw [e2]
    cases y with
    | int n =>
      have := hn n rfl
      simp only [Trm.fl_len]
      rw [if_neg this]
    | _ => rfl
  have e4 : m_look_opening [IT (Trm.fl t), y] = .ex "NoPlace" none := by simp [m_look_opening, mFn_2, b_look_opening, e3]
  simp [m_undone, mFn_2, b_undone, e1, e4]
theorem undone_bad {x y : D} (h : m_is_term [x] = .ok (false, .bl false)) : m_undone [x, y] = .ex "NoTerm" none := by
  have e1 : m_look_term [x] = .ex "NoTerm" none := by simp [m_look_term, mFn_1, b_look_term, h]
  simp [m_undone, mFn_2, b_undone, e1]
theorem openings_bad {x : D} (h : m_is_term [x] = .ok (false, .bl false)) : m_openings [x] = .ex "NoTerm" none := by
  have e1 : m_look_term [x] = .ex "NoTerm" none := by simp [m_look_term, mFn_1, b_look_term, h]
  have e2 : m_look_small [x] = .ex "NoTerm" none := by simp [m_look_small, mFn_1, b_look_small, e1]
  simp [m_openings, mFn_1, b_openings, e2]
theorem openings_great {x : D} (h : m_look_small [x] = .ex "NoSize" none) : m_openings [x] = .ex "NoSize" none := by
  simp [m_openings, mFn_1, b_openings, h]
theorem nI_mem {t : Trm} {p : Nat} : (p : Int) ∈ nI (els t) ↔ p < Trm.sz t ∧ isEta (Trm.sub t p) = true := by
  unfold nI
  rw [List.mem_map]
  constructor
  · rintro ⟨q, hq, e⟩
    have : q = p := by omega
    subst this
    exact els_mem.mp hq
  · intro h
    exact ⟨p, els_mem.mpr h, rfl⟩
theorem law_right_v {t : Trm} (ho : Ok t) (hs : Trm.sz t ≤ 200) : m_law_right [IT (Trm.fl t)] = .ok (false, .bl true) := by
  have e1 := law_openings_v ho.1
  have e2 := openings_v ho hs
  have hLm := fun p => nI_mem (t := t) (p := p)
  have hLl : (nI (els t)).length ≤ 1000 := by
    rw [nI_len]
    have := List.length_filter_le (fun p => isEta (Trm.sub t p)) (List.range (Trm.sz t))
    rw [List.length_range] at this
    unfold els
    omega
  have key : RetX (m_law_right [IT (Trm.fl t)]) (fun fr d => fr = false ∧ d = .bl true) NoX := by
    generalize nI (els t) = R at *
    have k1 : ∀ {y0 y1 y2 y4 : Option (Bool × D)}, compL (S.gName 3) S.tYes (eAnd (eIsi "int" (eVar 3)) (eNot (eIsi "bool" (eVar 3)))) [y0, y1, y2, none, y4] (R.map D.int) = .ok (true, R.map fun _ => D.bl true) := compL_map (fun x hx => ⟨_, by simp; rfl, rfl, false, by simp, rfl⟩)
    have hR2 : R.length ≤ 16777216 := by omega
    have hRl : R.length < 16777216 := by omega
    simp only [m_law_right, mFn_1, b_law_right]
    refine ret_fn fun R' X' hR hX => ?_
    refine wp_nx1 (by simp [e1]; rfl) ?_
    refine wp_nx1 (by simp [e2]; rfl) ?_
    refine wp_nx1 (by simp; rfl) ?_
    refine wp_nx1 (by simp [k1, hR2, fAll_true]; rfl) ?_
    refine wp_nx1 (by simp [hRl]; rfl) ?_
    rw [mSeq_ap, mFor_ap, iR1_e (a := (Trm.sz t : Int)) (fr := false) (n := Trm.sz t) (by simp) (by omega) (by omega) (by omega), forK_ok]
    refine wp_range (fun i n env => 0 ≤ i ∧ i + n = (Trm.sz t : Int) ∧ ∃ (x3 x4 : Option (Bool × D)), env = [some (false, IT (Trm.fl t)), some (true, IL R), some (true, IL (R ++ [0])), x3, x4]) ?_ ?_ ?_
    · exact ⟨by omega, by omega, none, none, by simp⟩
    · rintro N B R'' X'' i n env hN hB hR' hX' ⟨hi, hin, x3, x4, rfl⟩
      obtain ⟨p, rfl⟩ := Int.eq_ofNat_of_zero_le hi
      have hp : p < Trm.sz t := by omega
      refine ⟨_, by simp; rfl, ?_⟩
      by_cases q : isEta (Trm.sub t p) = true
      · have hm : (p : Int) ∈ R := (hLm p).mpr ⟨hp, q⟩
        have w1 := undone_v ho hp q
        have w2 := closed_v ho.1 hp
        rw [if_pos q] at w2
        simp [b_law_right_1, hm, w1, w2]
        exact hN _ ⟨by omega, by omega, _, _, rfl⟩
      · have q : isEta (Trm.sub t p) = false := by simpa using q
        have hm : ¬ (p : Int) ∈ R := fun z => by
          have := ((hLm p).mp z).2
          rw [q] at this; cases this
        have w1 := undone_no ho hp q
        simp [b_law_right_1, hm, w1, hO, neStr _ okO]
        exact hN _ ⟨by omega, by omega, _, _, rfl⟩
    · rintro i env ⟨hi, hin, x3, x4, rfl⟩
      simp [e2]
      exact hR _ _ ⟨rfl, rfl⟩
  obtain ⟨_, _, e, rfl, rfl⟩ := key.ok
  exact e
/-! what is no term -/
theorem bad_tup {xs : List D} (h : ∀ x ∈ xs, okD x = true) (hT : isT xs = false) : m_is_term [.tup xs] = .ok (false, .bl false) := by
  obtain ⟨_, _, e, rfl, rfl⟩ := (is_term_v h).ok
  rw [e, hT]
theorem bad_ints {ns : List Int} (h : Trm.rd 1 ns = false) : m_is_term [IT ns] = .ok (false, .bl false) := bad_tup okD_ints (by
  unfold isT
  rw [rdD_ints, h, Bool.and_false, Bool.and_false])
theorem bad_lst {xs : List D} : m_is_term [.lst xs] = .ok (false, .bl false) := by simp [m_is_term, mFn_1, b_is_term]
theorem bad_non : m_is_term [.non] = .ok (false, .bl false) := by simp [m_is_term, mFn_1, b_is_term]
theorem bad_one {xs : List D} (h : ∀ x ∈ xs, okD x = true) {x : D} (hx : x ∈ xs) (hn : okN x = false) : m_is_term [.tup xs] = .ok (false, .bl false) := bad_tup h (by
  unfold isT
  have : xs.all okN = false := by
    rw [Bool.eq_false_iff]
    intro q
    rw [List.all_eq_true] at q
    have := q x hx
    rw [hn] at this; cases this
  rw [this, Bool.false_and, Bool.and_false])
theorem rd_more (t : Trm) : Trm.rd 1 (Trm.fl t ++ [0]) = false := by
  rw [Trm.rd_fl t 1 [0] (by decide)]; rfl
theorem bads_v {t : Trm} {p : Nat} {x : D} (hx : x ∈ [Ls D.int (Trm.fl t), Tp D.int (Trm.fl t ++ [0]), D.non, D.tup (List.take p (List.map D.int (Trm.fl t)) ++ D.bl false :: List.drop (p + 1) (List.map D.int (Trm.fl t)))]) :
    m_is_term [x] = .ok (false, .bl false) := by
  simp only [List.mem_cons, List.not_mem_nil, or_false] at hx
  rcases hx with rfl | rfl | rfl | rfl
  · exact bad_lst
  · exact bad_ints (rd_more t)
  · exact bad_non
  · refine bad_one (x := .bl false) (fun x hx => ?_) (by simp) rfl
    rw [List.mem_append, List.mem_cons] at hx
    rcases hx with hx | rfl | hx
    · exact okD_ints x (List.mem_of_mem_take hx)
    · rfl
    · exact okD_ints x (List.mem_of_mem_drop hx)
/-! one number changed, a turn more -/
theorem spoilt {t : Trm} {p k m : Nat} (hp : p < Trm.sz t) (hf : Trm.fit m t) : ∃ x : Int, (Trm.fl t)[p]? = some x ∧
    ((0 ≤ x ∧ ∃ u, Trm.fl u = (Trm.fl t).take p ++ (x + 1 + k) :: (Trm.fl t).drop (p + 1) ∧ Trm.sz u = Trm.sz t ∧ Trm.fit (m + 1 + k) u) ∨
     (x < 0 ∧ ∃ u, Trm.fl u = (Trm.fl t).take p ++ -1 :: (Trm.fl t).drop p ∧ Trm.sz u = Trm.sz t + 1 ∧ Trm.fit m u)) := by
  obtain ⟨pre, suf, h1, h2, h3⟩ := Trm.sub_split t p hp
  have hsz := fun s => Trm.rep_sz (s := s) hp
  have hfi : ∀ n ∈ Trm.fl t, n ≤ (m : Int) := Trm.fit_iff.mp hf
  have htk : (Trm.fl t).take p = pre := by rw [h2, ← h1, List.append_assoc, List.take_left']; rfl
  have hdr : (Trm.fl t).drop p = Trm.fl (Trm.sub t p) ++ suf := by rw [h2, ← h1, List.append_assoc, List.drop_left']; rfl
  have hdr1 : (Trm.fl t).drop (p + 1) = (Trm.fl (Trm.sub t p) ++ suf).drop 1 := by rw [← List.drop_drop, hdr]
  have hget : (Trm.fl t)[p]? = (Trm.fl (Trm.sub t p) ++ suf)[0]? := by
    rw [← hdr, List.getElem?_drop, Nat.add_zero]
  have neg : ∀ (y : Int) (r : List Int), Trm.fl (Trm.sub t p) = y :: r → y < 0 → ∃ x : Int, (Trm.fl t)[p]? = some x ∧
    ((0 ≤ x ∧ ∃ u, Trm.fl u = (Trm.fl t).take p ++ (x + 1 + k) :: (Trm.fl t).drop (p + 1) ∧ Trm.sz u = Trm.sz t ∧ Trm.fit (m + 1 + k) u) ∨
     (x < 0 ∧ ∃ u, Trm.fl u = (Trm.fl t).take p ++ -1 :: (Trm.fl t).drop p ∧ Trm.sz u = Trm.sz t + 1 ∧ Trm.fit m u)) := by
    intro y r hy hn
    refine ⟨y, by rw [hget, hy]; rfl, .inr ⟨hn, Trm.rep (.lam (Trm.sub t p)) t p, ?_, ?_, ?_⟩⟩
    · rw [h3, htk, hdr]
      show pre ++ (-1 :: Trm.fl (Trm.sub t p)) ++ suf = _
      simp
    · have := hsz (.lam (Trm.sub t p))
      have e : Trm.sz (.lam (Trm.sub t p)) = Trm.sz (Trm.sub t p) + 1 := by simp [Trm.sz]
      omega
    · rw [Trm.fit_iff, h3]
      intro n hn
      rw [h2] at hfi
      simp only [List.mem_append] at hn hfi
      have e : Trm.fl (.lam (Trm.sub t p)) = -1 :: Trm.fl (Trm.sub t p) := rfl
      rw [e, List.mem_cons] at hn
      rcases hn with (hn | rfl | hn) | hn
      · exact hfi n (.inl (.inl hn))
      · omega
      · exact hfi n (.inl (.inr hn))
      · exact hfi n (.inr hn)
  cases hs : Trm.sub t p with
  | lam b => exact neg (-1) (Trm.fl b) (by rw [hs]; rfl) (by decide)
  | app a b => exact neg (-2) (Trm.fl a ++ Trm.fl b) (by rw [hs]; rfl) (by decide)
  | spot n =>
    have e0 : Trm.fl (Trm.sub t p) = [(n : Int)] := by rw [hs]; rfl
    refine ⟨n, by rw [hget, e0]; rfl, .inl ⟨by omega, Trm.rep (.spot (n + 1 + k)) t p, ?_, ?_, ?_⟩⟩
    · rw [h3, htk, hdr1, e0]
      show pre ++ [((n + 1 + k : Nat) : Int)] ++ suf = _
      simp
    · have := hsz (.spot (n + 1 + k))
      have e : Trm.sz (Trm.sub t p) = 1 := by rw [hs]; rfl
      have e2 : Trm.sz (.spot (n + 1 + k)) = 1 := rfl
      omega
    · rw [Trm.fit_iff, h3]
      intro x hx
      rw [h2] at hfi
      have hn : (n : Int) ≤ m := hfi n (by rw [e0]; simp)
      have e : Trm.fl (.spot (n + 1 + k)) = [((n + 1 + k : Nat) : Int)] := rfl
      rw [e] at hx
      simp only [List.mem_append, List.mem_singleton] at hx hfi
      rcases hx with (hx | rfl) | hx
      · have := hfi x (.inl (.inl hx)); omega
      · omega
      · have := hfi x (.inr hx); omega
/-! one above 200 numbers -/
theorem great_v {u : Trm} {m : Nat} (hu : Trm.sz u ≤ 200) (hm : 197 ≤ m + Trm.sz u) (hm2 : m ≤ 1000) (hf : Trm.fit 1000 u) :
    m_openings [IT ([-2] ++ List.replicate m (-1) ++ [-1, -2, 7, 0] ++ Trm.fl u)] = .ex "NoSize" none ∧
    m_undone [IT ([-2] ++ List.replicate m (-1) ++ [-1, -2, 7, 0] ++ Trm.fl u), .int ((1 + m : Nat) : Int)] = .ok (false, IT ([-2] ++ List.replicate m (-1) ++ [6] ++ Trm.fl u)) := by
  have hg : Trm.fl (.app (lams m (.lam (.app (.spot 7) (.spot 0)))) u) = [-2] ++ List.replicate m (-1) ++ [-1, -2, 7, 0] ++ Trm.fl u := by
    show -2 :: (Trm.fl (lams m (.lam (.app (.spot 7) (.spot 0)))) ++ Trm.fl u) = _
    rw [lams_fl]
    show -2 :: (List.replicate m (-1) ++ [-1, -2, 7, 0] ++ Trm.fl u) = _
    simp
  have hs : Trm.sz (.app (lams m (.lam (.app (.spot 7) (.spot 0)))) u) = m + 5 + Trm.sz u := by
    rw [← Trm.fl_len, hg]; simp [Trm.fl_len]; omega
  have hfg : Trm.fit 9999 (.app (lams m (.lam (.app (.spot 7) (.spot 0)))) u) := by
    rw [Trm.fit_iff, hg]
    have := Trm.fit_iff.mp hf
    intro n hn
    simp only [List.mem_append, List.mem_cons, List.not_mem_nil, or_false, List.mem_replicate] at hn
    rcases hn with ((rfl | hn) | rfl | rfl | rfl | rfl) | hn
    · omega
    · omega
    · omega
    · omega
    · omega
    · omega
    · have := this n hn; omega
  have hok : Ok (.app (lams m (.lam (.app (.spot 7) (.spot 0)))) u) := ⟨by omega, hfg⟩
  have hsub : ∀ m, Trm.sub (lams m (.lam (.app (.spot 7) (.spot 0)))) m = .lam (.app (.spot 7) (.spot 0)) ∧ ∀ s, Trm.rep s (lams m (.lam (.app (.spot 7) (.spot 0)))) m = lams m s := by
    intro m
    induction m with
    | zero => exact ⟨by simp [lams, Trm.sub], fun s => by simp [lams, Trm.rep]⟩
    | succ m ih => exact ⟨by simp [lams, Trm.sub, ih.1], fun s => by simp [lams, Trm.rep, ih.2]⟩
  have hsl : m < Trm.sz (lams m (.lam (.app (.spot 7) (.spot 0)))) := by rw [lams_sz]; simp [Trm.sz]
  have hsub2 : Trm.sub (.app (lams m (.lam (.app (.spot 7) (.spot 0)))) u) (1 + m) = .lam (.app (.spot 7) (.spot 0)) := by
    rw [show 1 + m = m + 1 by omega]
    simp [Trm.sub, hsl, (hsub m).1]
  have hrep2 : ∀ s, Trm.rep s (.app (lams m (.lam (.app (.spot 7) (.spot 0)))) u) (1 + m) = .app (lams m s) u := fun s => by
    rw [show 1 + m = m + 1 by omega]
    simp [Trm.rep, hsl, (hsub m).2]
  have hle : 1 + m < Trm.sz (.app (lams m (.lam (.app (.spot 7) (.spot 0)))) u) := by omega
  have he : isEta (Trm.sub (.app (lams m (.lam (.app (.spot 7) (.spot 0)))) u) (1 + m)) = true := by rw [hsub2]; decide
  have e1 := undone_v hok hle he
  have hun : und (.app (lams m (.lam (.app (.spot 7) (.spot 0)))) u) (1 + m) = .app (lams m (.spot 6)) u := by
    unfold und
    rw [hsub2, hrep2]; rfl
  have hfu : Trm.fl (.app (lams m (.spot 6)) u) = [-2] ++ List.replicate m (-1) ++ [6] ++ Trm.fl u := by
    show -2 :: (Trm.fl (lams m (.spot 6)) ++ Trm.fl u) = _
    rw [lams_fl]
    show -2 :: (List.replicate m (-1) ++ [6] ++ Trm.fl u) = _
    simp
  have e2 := look_small_e hok
  rw [if_neg (by omega)] at e2
  rw [hun, hfu, hg] at e1
  rw [hg] at e2
  exact ⟨openings_great e2, e1⟩
theorem gAdd_IT1 {A : List Int} {x : Int} (h : A.length + 1 ≤ 16777216) : gAdd (IT A) (.tup [.int x]) = .ok (false, IT (A ++ [x])) := by
  have := gAdd_Tp (dec := D.int) (xs := A) (ys := [x])
  rw [if_pos (by rw [szl]; simpa using h)] at this
  exact this
theorem great_nx {pl pr : S.Env → RD} {c : S.Env → Rs Bool} {env : S.Env} {A B : List Int} {f1 f2 : Bool} (h1 : pl env = .ok (f1, IT A)) (h2 : pr env = .ok (f2, IT B)) (h3 : c (env.set 9 (some (false, IT (A ++ B)))) = .ok false)
    (hA : A ≠ []) (hB : B ≠ []) (hl : A.length + B.length ≤ 16777216) (h9 : 9 < env.length) (h7 : (7 : Int) ∈ A ++ B) :
    mGreat 9 7 pl pr c false 7 2 env = .nx ((env.set 9 (some (false, IT (A ++ B)))).set 7 (some (false, .int (((A ++ B).idxOf 7 : Nat) - 2)))) := by
  have e : A.map D.int ++ B.map D.int = (A ++ B).map D.int := List.map_append.symm
  have h1 : pl env = .ok (f1, .tup (A.map D.int)) := h1
  have h2 : pr env = .ok (f2, .tup (B.map D.int)) := h2
  unfold mGreat
  rw [h1]
  try simp only
  rw [h2]
  try simp only
  rw [if_pos ⟨⟨by simpa using hA, by simpa using hB, by rw [szl]; simpa using hl⟩, ⟨h9, by decide⟩, lfL_ints, lfL_ints⟩, e]
  rw [show S.D.tup ((A ++ B).map D.int) = IT (A ++ B) from rfl, h3]
  simp only [knInts_ints, if_pos h7]
theorem law_run (d : D) (ns : List Int) (hd : Scr d ns) (hn : ns.length ≤ 63) : RetX (m_law [d]) (fun _ d => d = .bl true) NoX := by
  obtain ⟨c0, hc0⟩ := hd.cell (k := 0) (by decide)
  obtain ⟨c1, hc1⟩ := hd.cell (k := 1) (by decide)
  have hc0 : m_law_cell_at [d, .int 0] = .ok (false, .int c0) := hc0
  have hc1 : m_law_cell_at [d, .int 1] = .ok (false, .int c1) := hc1
  obtain ⟨B, hB⟩ : ∃ B, List.replicate 5 (200 : Int) = B := ⟨_, rfl⟩
  have hBl : B.length = 5 := by subst hB; simp
  have hbm : ∀ b ∈ (8 :: 6 :: (B ++ [200, 5, 60]) : List Int), 0 < b ∧ b < 10000 := by
    intro b hb
    subst hB
    simp only [List.mem_cons, List.mem_append, List.mem_replicate, List.not_mem_nil, or_false] at hb
    omega
  obtain ⟨_, _, hnum, rfl, qs, rfl, hf⟩ := (numbers_v (c := c1) (bs := 8 :: 6 :: (B ++ [200, 5, 60])) (by simp; omega) hbm).ok
  have hql := hf.len
  simp [hBl] at hql
  have hq0 := hf.get
  obtain ⟨n7, g7, a7, b7⟩ := hf.at 7 200 (by
    rw [List.getElem?_cons_succ, List.getElem?_cons_succ, List.getElem?_append_right (by omega), hBl]; rfl)
  obtain ⟨n8, g8, a8, b8⟩ := hf.at 8 5 (by
    rw [List.getElem?_cons_succ, List.getElem?_cons_succ, List.getElem?_append_right (by omega), hBl]; rfl)
  obtain ⟨n9, g9, a9, b9⟩ := hf.at 9 60 (by
    rw [List.getElem?_cons_succ, List.getElem?_cons_succ, List.getElem?_append_right (by omega), hBl]; rfl)
  obtain ⟨n0, g0, a0, b0⟩ := hf.at 0 8 rfl
  obtain ⟨n1, g1, a1, b1⟩ := hf.at 1 6 rfl
  obtain ⟨far, rfl⟩ := Int.eq_ofNat_of_zero_le a9
  obtain ⟨k8, rfl⟩ := Int.eq_ofNat_of_zero_le a8
  obtain ⟨at0, rfl⟩ := Int.eq_ofNat_of_zero_le a7
  obtain ⟨most, hmost, hm1, hm2⟩ : ∃ m : Nat, atI [(30 : Int), 30, 30, 80, 30, 30, 30, 30] n0 = some (m : Int) ∧ 1 ≤ m ∧ m ≤ 80 := by
    have : n0 = 0 ∨ n0 = 1 ∨ n0 = 2 ∨ n0 = 3 ∨ n0 = 4 ∨ n0 = 5 ∨ n0 = 6 ∨ n0 = 7 := by omega
    rcases this with rfl | rfl | rfl | rfl | rfl | rfl | rfl | rfl <;> first | exact ⟨30, rfl, by decide, by decide⟩ | exact ⟨80, rfl, by decide, by decide⟩
  obtain ⟨_, _, ht, rfl, t, rfl, ho, hsz⟩ := (term_by_v (c := c0) (most := most) hm1 (by omega)).ok
  have hft : Trm.fit 200 t := Trm.ob_fit ho (by omega)
  have hok : Ok t := ⟨by omega, Trm.fit_mono (by decide) hft⟩
  simp only [m_law, mFn_1, b_law]
  refine ret_fn fun R' X' hR hX => ?_
  refine wp_nx1 (by simp [-List.reduceReplicate, hc1, hB, hBl, hnum]; rfl) ?_
  refine wp_nx1 (by simp [hc0, g0, hmost, ht]; rfl) ?_
  have r0 := law_right_v hok (by omega)
  refine wp_nx1 (by simp [r0]; rfl) ?_
  have hcl : (cutL qs (some 2) (some (2 + n1))).length = n1.toNat := by
    obtain ⟨m, rfl⟩ := Int.eq_ofNat_of_zero_le a1
    rw [show (some (2 : Int)) = some ((2 : Nat) : Int) from rfl, show (2 : Int) + (m : Int) = ((2 + m : Nat) : Int) by omega, cutL_both]
    simp
    omega
  refine wp_mid (fun e => ∃ (u : Trm) (x3 : Option (Bool × D)) (b1 : Bool), Trm.sz u = Trm.sz t + 3 * n1.toNat ∧ Trm.fit 300 u ∧ e = [some (false, d), some (b1, IL qs), some (false, IT (Trm.fl u)), x3, none, none, none, none, none, none]) ?_ ?_
  · intro N' hN'
    refine wp_last ?_
    simp [g1]
    refine wp_loop (fun xs env => ∃ (u : Trm) (x3 : Option (Bool × D)) (b1 : Bool) (m : Nat), (∀ x ∈ xs, 0 ≤ x) ∧ Trm.sz u + 3 * xs.length = Trm.sz t + 3 * n1.toNat ∧ m + xs.length ≤ 300 ∧ Trm.fit m u ∧ env = [some (false, d), some (b1, IL qs), some (false, IT (Trm.fl u)), x3, none, none, none, none, none, none]) ?_ ?_ ?_
    · exact ⟨t, none, _, 200, fun x hx => hq0 x (cutL_mem hx), by rw [hcl], by rw [hcl]; omega, hft, rfl⟩
    · rintro N B'' R'' X'' x xs env hN hB'' hR' hX' ⟨u, x4, b1, m, h1, h3, h4, h5, rfl⟩
      obtain ⟨k, rfl⟩ := Int.eq_ofNat_of_zero_le (h1 x (by simp))
      have hz := Trm.sz_pos u
      simp at h3 h4
      have hp : k % Trm.sz u < Trm.sz u := Nat.mod_lt _ hz
      have e1 := law_opened_v (t := u) (p := k % Trm.sz u) (by omega) hp
      rw [Int.natCast_emod] at e1
      have hl : (Trm.sz u).log2 < 9000 := by
        have := lg (n := Trm.sz u) (m := 101) (by omega) (by decide)
        omega
      refine ⟨_, by simp; rfl, ?_⟩
      simp [b_law_1, hz, hl, e1]
      exact hN _ ⟨_, _, _, m + 1, fun y m => h1 y (by simp [m]), by rw [opn1_sz hp]; omega, by omega, opn1_fit hp h5, rfl⟩
    · rintro env ⟨u, x4, b1, m, h1, h3, h4, h5, rfl⟩
      simp
      exact hN' _ ⟨u, _, _, by simpa using h3, Trm.fit_mono (by omega) h5, rfl⟩
  · rintro e ⟨u, x3, bq, h3, h5, rfl⟩
    have hou : Ok u := ⟨by omega, Trm.fit_mono (by decide) h5⟩
    have r1 := law_right_v hou (by omega)
    have hz := Trm.sz_pos u
    refine wp_nx1 (by simp [r1]; rfl) ?_
    have hl2 : (Trm.sz u).log2 < 9000 := by
      have := lg (n := Trm.sz u) (m := 1001) (by omega) (by decide)
      omega
    refine wp_nx1 (by simp [g7, hl2, hz]; rfl) ?_
    have hp : at0 % Trm.sz u < Trm.sz u := Nat.mod_lt _ hz
    rw [← Int.natCast_emod]
    generalize at0 % Trm.sz u = p at *
    obtain ⟨x, hx, hsp⟩ := spoilt (k := k8) hp h5
    have hx : atI (Trm.fl u) (p : Int) = some x := by rw [S.atI_nat]; exact hx
    have c1 : cutL (Trm.fl u) (some ((p : Int) + 1)) none = (Trm.fl u).drop (p + 1) := by
      rw [show (p : Int) + 1 = ((p + 1 : Nat) : Int) by omega, cutL_lo]
    have l1 : Trm.sz u + 1 ≤ 16777216 := by omega
    have m1 : min p (Trm.sz u) ≤ 16777215 := by omega
    have m2 : min p (Trm.sz u) + 1 + (Trm.sz u - p) ≤ 16777216 := by omega
    have m3 : min p (Trm.sz u) + 1 + (Trm.sz u - (p + 1)) ≤ 16777216 := by omega
    have t1 : lfL (List.take p (List.map D.int (Trm.fl u))) = true := by rw [← List.map_take]; exact lfL_ints
    have t2' : lfL (List.drop (p + 1) (List.map D.int (Trm.fl u))) = true := by rw [← List.map_drop]; exact lfL_ints
    refine wp_nx1 (by simp [hx, g8, c1, gAdd_IT1, l1, m1, m2, m3, t1, t2']; rfl) ?_
    refine wp_mid (fun e => ∃ (u2 : Trm) (x3 : Option (Bool × D)) (bq b4 b2 : Bool), Ok u2 ∧ Trm.sz u2 ≤ 200 ∧ e = [some (false, d), some (bq, IL qs), some (b2, IT (Trm.fl u)), x3, some (b4, .int (p : Int)), some (false, IT (Trm.fl u2)), none, none, none, none]) ?_ ?_
    · intro N' hN'
      refine wp_last ?_
      rcases hsp with ⟨hx0, u2, q1, q2, q3⟩ | ⟨hx0, u2, q1, q2, q3⟩
      · have hx1 : ¬ x < 0 := by omega
        simp [hx, hx1]
        exact hN' _ ⟨u2, _, _, _, _, ⟨by omega, Trm.fit_mono (by omega) q3⟩, by omega, by rw [q1]; try simp⟩
      · simp [hx, hx0, gAdd_IT1, l1, m1, m2, m3, t1, t2']
        exact hN' _ ⟨u2, _, _, _, _, ⟨by omega, Trm.fit_mono (by omega) q3⟩, by omega, by rw [q1]; try simp⟩
    · rintro e ⟨u2, x3, bq, b4, b2, h21, h22, rfl⟩
      have r2 := law_right_v h21 h22
      refine wp_nx1 (by simp [r2]; rfl) ?_
      refine wp_nx1 (by simp [g9]; rfl) ?_
      have hpl : ∀ x ∈ [D.int (-1 - (far : Int)), .int ((Trm.sz u : Int) + far), .bl true, .non, .str "1"], m_undone [IT (Trm.fl u), x] = .ex "NoPlace" none := by
        intro x hx
        simp only [List.mem_cons, List.not_mem_nil, or_false] at hx
        refine undone_place hou ?_ ?_
        · rcases hx with rfl | rfl | rfl | rfl | rfl <;> rfl
        · rintro n rfl
          rcases hx with hx | hx | hx | hx | hx
          · cases hx; omega
          · cases hx; omega
          · cases hx
          · cases hx
          · cases hx
      rw [mSeq_ap]
      simp
      refine wp_loopD (fun xs env => ∃ (bq b2 b6 b4 : Bool) (x3 x7 : Option (Bool × D)), (∀ x ∈ xs, m_undone [IT (Trm.fl u), x] = .ex "NoPlace" none) ∧ env = [some (false, d), some (bq, IL qs), some (b2, IT (Trm.fl u)), x3, some (b4, .int (p : Int)), some (false, IT (Trm.fl u2)), some (b6, .int (far : Int)), x7, none, none]) ⟨_, _, _, _, _, _, hpl, rfl⟩ ?_ ?_
      · rintro N B'' R'' X'' x xs env hN hB'' hR' hX' ⟨bq, b2, b6, b4, x3, x7, q1, rfl⟩
        have hx := q1 x (by simp)
        refine ⟨_, by simp; rfl, ?_⟩
        simp [b_law_2, hx, hP, neStr _ okP]
        exact hN _ ⟨_, _, _, _, _, _, fun y m => q1 y (by simp [m]), rfl⟩
      · rintro env ⟨bq, b2, b6, b4, x3, x7, _, rfl⟩
        rw [mSeq_ap]
        simp [c1, l1, m1, m2, m3, t1, t2']
        have hall := fun x hx => bads_v (t := u) (p := p) (x := x) hx
        refine wp_loopD (fun xs env => ∃ (bq b2 b6 b4 : Bool) (x3 x7 x8 : Option (Bool × D)), (∀ x ∈ xs, m_is_term [x] = .ok (false, .bl false)) ∧ env = [some (false, d), some (bq, IL qs), some (b2, IT (Trm.fl u)), x3, some (b4, .int (p : Int)), some (false, IT (Trm.fl u2)), some (b6, .int (far : Int)), x7, x8, none]) ⟨_, _, _, _, _, _, _, hall, rfl⟩ ?_ ?_
        · rintro N B'' R'' X'' x xs env hN hB'' hR' hX' ⟨bq, b2, b6, b4, x3, x7, x8, q1, rfl⟩
          have hx := q1 x (by simp)
          have w1 := undone_bad (y := .int (-1)) hx
          have w2 := openings_bad hx
          refine ⟨_, by simp; rfl, ?_⟩
          simp [b_law_3, w1, w2, hT, neStr _ okT]
          exact hN _ ⟨_, _, _, _, _, _, _, fun y m => q1 y (by simp [m]), rfl⟩
        · rintro env ⟨bq, b2, b6, b4, x3, x7, x8, _, rfl⟩
          obtain ⟨m, hm⟩ : ∃ m : Nat, (m : Int) = 197 - Trm.sz u + far := ⟨(197 - (Trm.sz u : Int) + far).toNat, by omega⟩
          obtain ⟨w1, w2⟩ := great_v (u := u) (m := m) (by omega) (by omega) (by omega) (Trm.fit_mono (by decide) h5)
          have w1' := w1
          simp at w1'
          have hgm : gMul (IT [-1]) (.int (197 - (Trm.sz u : Int) + far)) = .ok (false, IT (List.replicate m (-1))) := by
            rw [← hm]
            have l1 : m ≤ 16777216 := by omega
            have l2 : (m : Int) < 9223372036854775808 := by omega
            simp [l1, l2]
          have l3 : m + 1 ≤ 16777216 := by omega
          have l4 : 1 + m ≤ 16777216 := by omega
          have l5 : m + 1 + 4 ≤ 16777216 := by omega
          have l6 : m + 4 ≤ 16777215 := by omega
          have l7 : 1 + m + 4 ≤ 16777216 := by omega
          have hix : (([-2] ++ List.replicate m (-1) ++ [-1, -2, 7, 0] ++ Trm.fl u).idxOf 7 : Nat) = 1 + m + 2 := by
            simp [List.idxOf_append, List.idxOf_cons]
            try omega
          have hgr := great_nx (env := [some (false, d), some (bq, IL qs), some (b2, IT (Trm.fl u)), x3, some (b4, .int (p : Int)), some (false, IT (Trm.fl u2)), some (b6, .int (far : Int)), x7, x8, none]) (A := [-2] ++ List.replicate m (-1) ++ [-1, -2, 7, 0]) (B := Trm.fl u) (f1 := false) (f2 := false)
            (pl := (eOp gAdd (eOp gAdd (eTup (aCons (eUn gNeg (eC (.int 2))) aNil)) (eOp gMul (eTup (aCons (eUn gNeg (eC (.int 1))) aNil)) (eOp gAdd (eOp gSub (eC (.int 197)) (eFn fLen (aCons (eVar 2) aNil))) (eVar 6)))) (eTup (aCons (eUn gNeg (eC (.int 1))) (aCons (eUn gNeg (eC (.int 2))) (aCons (eC (.int 7)) (aCons (eC (.int 0)) aNil))))))) (pr := eVar 2)
            (c := tE (eOp gNe (eHow tblHow (eFn m_openings (aCons (eVar 9) aNil))) (eC (.str "NoSize"))))
            (by simp [hgm, l3, l4, l5, l6, l7]) (by simp) (by simp [w1', hS, neStr _ okS]) (by simp) (by have := Trm.fl_len u; intro z; rw [z] at this; simp at this; omega) (by simp [Trm.fl_len]; omega) (by simp) (by simp)
          rw [hix] at hgr
          rw [mSeq_ap, hgr]
          have l8 : m + (4 + Trm.sz u) ≤ 16777216 := by omega
          have l9 : 1 + m + 1 + Trm.sz u ≤ 16777216 := by omega
          have hpl2 : ((1 + m + 2 : Nat) : Int) - 2 = ((1 + m : Nat) : Int) := by omega
          have z1 : cutL ([-2] ++ List.replicate m (-1) ++ [-1, -2, 7, 0] ++ Trm.fl u) none (some ((1 + m : Nat) : Int)) = [-2] ++ List.replicate m (-1) := by
            rw [cutL_hi, List.append_assoc, List.take_left' (by simp; omega)]
          have z2 : cutL ([-2] ++ List.replicate m (-1) ++ [-1, -2, 7, 0] ++ Trm.fl u) (some (((1 + m : Nat) : Int) + 4)) none = Trm.fl u := by
            rw [show ((1 + m : Nat) : Int) + 4 = ((1 + m + 4 : Nat) : Int) by omega, cutL_lo, List.drop_left' (by simp; omega)]
          rw [hpl2]
          generalize ((1 + m : Nat) : Int) = q at *
          generalize [-2] ++ List.replicate m (-1) ++ [-1, -2, 7, 0] ++ Trm.fl u = G at *
          have hA : ([-2] ++ List.replicate m (-1)).length = 1 + m := by simp; omega
          generalize [-2] ++ List.replicate m (-1) = A at *
          simp [w2, z1, z2, hA, l9, r1, gAdd_IT1, l4]
          exact ⟨by omega, hR _ _ rfl⟩
theorem law_true : ∀ ns : List Int, ns.length ≤ 63 → (∃ fr, m_law [.scr ns] = .ok (fr, .bl true)) ∧ ∃ fr, m_law [.lst (ns.map D.int)] = .ok (fr, .bl true) := fun ns h => by
  obtain ⟨fr, d, e, rfl⟩ := (law_run _ ns (.inl rfl) h).ok
  obtain ⟨fr2, d2, e2, rfl⟩ := (law_run _ ns (.inr rfl) h).ok
  exact ⟨⟨fr, e⟩, ⟨fr2, e2⟩⟩

end Law

namespace Law
open PySem PySem.Spec PyProof.Rows L2 S
theorem kx_law_alone_NoTerm (a : Addr) (dx : Option Addr) (xv : V) : bx_law_alone_NoTerm a dx (some (false, .raw a dx xv) :: List.replicate 1 none) = .rt false (.bl true) := by
  simp [bx_law_alone_NoTerm]
  try rfl
theorem kx_law_alone_NoPlace (a : Addr) (dx : Option Addr) (xv : V) : bx_law_alone_NoPlace a dx (some (false, .raw a dx xv) :: List.replicate 1 none) = .rt false (.bl true) := by
  simp [bx_law_alone_NoPlace]
  try rfl
theorem kx_law_alone_NoSize (a : Addr) (dx : Option Addr) (xv : V) : bx_law_alone_NoSize a dx (some (false, .raw a dx xv) :: List.replicate 1 none) = .rt false (.bl true) := by
  simp [bx_law_alone_NoSize]
  try rfl
theorem kx_law_alone_NoOpening (a : Addr) (dx : Option Addr) (xv : V) : bx_law_alone_NoOpening a dx (some (false, .raw a dx xv) :: List.replicate 1 none) = .rt false (.bl true) := by
  simp [bx_law_alone_NoOpening]
  try rfl
theorem hs_law_how_NoTerm (ae : Addr) (dx : Option Addr) (xv : V) : (mSet 1 (([] ++ ([] ++ [])) ++ ([] ++ [])) (eOp gIx (eLst (aCons (eC (.str "other")) (aCons (eC (.str "NoTerm")) aNil))) (eFn fInt (aCons (eKnd 2 ae dx (.bl true)) aNil)))) [none, none, some (false, .raw ae dx xv)] = .nx [none, some (false, .str "NoTerm"), some (false, .raw ae dx xv)] := by
  simp
theorem hs_law_how_NoPlace (ae : Addr) (dx : Option Addr) (xv : V) : (mSet 1 (([] ++ ([] ++ [])) ++ ([] ++ [])) (eOp gIx (eLst (aCons (eC (.str "other")) (aCons (eC (.str "NoPlace")) aNil))) (eFn fInt (aCons (eKnd 2 ae dx (.bl true)) aNil)))) [none, none, some (false, .raw ae dx xv)] = .nx [none, some (false, .str "NoPlace"), some (false, .raw ae dx xv)] := by
  simp
theorem hs_law_how_NoOpening (ae : Addr) (dx : Option Addr) (xv : V) : (mSet 1 (([] ++ ([] ++ [])) ++ ([] ++ [])) (eOp gIx (eLst (aCons (eC (.str "other")) (aCons (eC (.str "NoOpening")) aNil))) (eFn fInt (aCons (eKnd 2 ae dx (.bl true)) aNil)))) [none, none, some (false, .raw ae dx xv)] = .nx [none, some (false, .str "NoOpening"), some (false, .raw ae dx xv)] := by
  simp
theorem hs_law_how_NoSize (ae : Addr) (dx : Option Addr) (xv : V) : (mSet 1 (([] ++ ([] ++ [])) ++ ([] ++ [])) (eOp gIx (eLst (aCons (eC (.str "other")) (aCons (eC (.str "NoSize")) aNil))) (eFn fInt (aCons (eKnd 2 ae dx (.bl true)) aNil)))) [none, none, some (false, .raw ae dx xv)] = .nx [none, some (false, .str "NoSize"), some (false, .raw ae dx xv)] := by
  simp
end Law

namespace Law
open PySem PySem.Spec PyProof.Rows L2 S
def topS (i : Nat) : Stmt := PySem.Challenge.pw_rowapart_k30_undone.main.body.getD i (.Pass ⟨0, 0, 0, 0⟩)
abbrev s_law_cell_at : Stmt := topS 46
abbrev s_law_mixed : Stmt := topS 47
abbrev s_law_numbers : Stmt := topS 48
abbrev s_law_ends : Stmt := topS 49
abbrev s_law_about : Stmt := topS 50
abbrev s_law_moved : Stmt := topS 51
abbrev s_law_opened : Stmt := topS 52
abbrev s_law_closed_again : Stmt := topS 53
abbrev s_law_openings : Stmt := topS 54
abbrev s_all_ends : Stmt := topS 30
abbrev s_all_around : Stmt := topS 32
abbrev s_means_none : Stmt := topS 37
abbrev s_more_due : Stmt := topS 25
abbrev s_part_end : Stmt := topS 31
abbrev s_taker_of : Stmt := topS 38
abbrev s_is_opening : Stmt := topS 39
abbrev s_all_openings : Stmt := topS 43
abbrev s_is_read : Stmt := topS 26
abbrev s_is_whole : Stmt := topS 24
abbrev s_is_term : Stmt := topS 27
abbrev s_look_term : Stmt := topS 28
abbrev s_look_small : Stmt := topS 36
abbrev s_openings : Stmt := topS 44
abbrev s_look_place : Stmt := topS 29
abbrev s_look_opening : Stmt := topS 41
abbrev s_moved_by : Stmt := topS 33
abbrev s_undo_at : Stmt := topS 40
abbrev s_undone : Stmt := topS 42
abbrev s_law_right : Stmt := topS 58
abbrev s_law_term_by : Stmt := topS 55
abbrev s_law : Stmt := topS 59
abbrev s_law_alone : Stmt := topS 56
abbrev s_law_how : Stmt := topS 57
abbrev N_law_cell_at : List Str := ["_law_script", "_law_k"]
theorem sc_law_cell_at : FnScope N_law_cell_at ["_law_script", "_law_k"] (defScope s_law_cell_at) := ⟨rfl, rfl, rfl, by decide +kernel, rfl, by decide +kernel, by decide +kernel⟩
abbrev N_law_mixed : List Str := ["_law_cell", "_law_k", "_law_one"]
theorem sc_law_mixed : FnScope N_law_mixed ["_law_cell", "_law_k"] (defScope s_law_mixed) := ⟨rfl, rfl, rfl, by decide +kernel, rfl, by decide +kernel, by decide +kernel⟩
abbrev N_law_numbers : List Str := ["_law_cell", "_law_sizes", "_law_told", "_law_rest", "_law_k", "_law_size", "_law_number"]
theorem sc_law_numbers : FnScope N_law_numbers ["_law_cell", "_law_sizes"] (defScope s_law_numbers) := ⟨rfl, rfl, rfl, by decide +kernel, rfl, by decide +kernel, by decide +kernel⟩
abbrev N_law_ends : List Str := ["_law_term", "_law_found", "_law_at"]
theorem sc_law_ends : FnScope N_law_ends ["_law_term"] (defScope s_law_ends) := ⟨rfl, rfl, rfl, by decide +kernel, rfl, by decide +kernel, by decide +kernel⟩
abbrev N_law_about : List Str := ["_law_term", "_law_ends_here", "_law_found", "_law_at", "_law_number", "_law_place"]
theorem sc_law_about : FnScope N_law_about ["_law_term"] (defScope s_law_about) := ⟨rfl, rfl, rfl, by decide +kernel, rfl, by decide +kernel, by decide +kernel⟩
abbrev N_law_moved : List Str := ["_law_term", "_law_many", "_law_row", "_law_number", "_law_turns"]
theorem sc_law_moved : FnScope N_law_moved ["_law_term", "_law_many"] (defScope s_law_moved) := ⟨rfl, rfl, rfl, by decide +kernel, rfl, by decide +kernel, by decide +kernel⟩
abbrev N_law_opened : List Str := ["_law_term", "_law_place", "_law_end"]
theorem sc_law_opened : FnScope N_law_opened ["_law_term", "_law_place"] (defScope s_law_opened) := ⟨rfl, rfl, rfl, by decide +kernel, rfl, by decide +kernel, by decide +kernel⟩
abbrev N_law_closed_again : List Str := ["_law_term", "_law_place", "_law_behind", "_law_body", "_law_number", "_law_turns"]
theorem sc_law_closed_again : FnScope N_law_closed_again ["_law_term", "_law_place"] (defScope s_law_closed_again) := ⟨rfl, rfl, rfl, by decide +kernel, rfl, by decide +kernel, by decide +kernel⟩
abbrev N_law_openings : List Str := ["_law_term", "_law_place"]
theorem sc_law_openings : FnScope N_law_openings ["_law_term"] (defScope s_law_openings) := ⟨rfl, rfl, rfl, by decide +kernel, rfl, by decide +kernel, by decide +kernel⟩
abbrev N_all_ends : List Str := ["term", "found", "at", "number"]
theorem sc_all_ends : FnScope N_all_ends ["term"] (defScope s_all_ends) := ⟨rfl, rfl, rfl, by decide +kernel, rfl, by decide +kernel, by decide +kernel⟩
abbrev N_all_around : List Str := ["term", "ends", "within", "found", "at", "number"]
theorem sc_all_around : FnScope N_all_around ["term"] (defScope s_all_around) := ⟨rfl, rfl, rfl, by decide +kernel, rfl, by decide +kernel, by decide +kernel⟩
abbrev N_means_none : List Str := ["term", "number", "turns"]
theorem sc_means_none : FnScope N_means_none ["term"] (defScope s_means_none) := ⟨rfl, rfl, rfl, by decide +kernel, rfl, by decide +kernel, by decide +kernel⟩
abbrev N_more_due : List Str := ["number"]
theorem sc_more_due : FnScope N_more_due ["number"] (defScope s_more_due) := ⟨rfl, rfl, rfl, by decide +kernel, rfl, by decide +kernel, by decide +kernel⟩
abbrev N_part_end : List Str := ["term", "place", "due", "at"]
theorem sc_part_end : FnScope N_part_end ["term", "place"] (defScope s_part_end) := ⟨rfl, rfl, rfl, by decide +kernel, rfl, by decide +kernel, by decide +kernel⟩
abbrev N_taker_of : List Str := ["term", "place"]
theorem sc_taker_of : FnScope N_taker_of ["term", "place"] (defScope s_taker_of) := ⟨rfl, rfl, rfl, by decide +kernel, rfl, by decide +kernel, by decide +kernel⟩
abbrev N_is_opening : List Str := ["term", "place", "taker"]
theorem sc_is_opening : FnScope N_is_opening ["term", "place"] (defScope s_is_opening) := ⟨rfl, rfl, rfl, by decide +kernel, rfl, by decide +kernel, by decide +kernel⟩
abbrev N_all_openings : List Str := ["term", "place"]
theorem sc_all_openings : FnScope N_all_openings ["term"] (defScope s_all_openings) := ⟨rfl, rfl, rfl, by decide +kernel, rfl, by decide +kernel, by decide +kernel⟩
abbrev N_is_read : List Str := ["numbers", "due", "number"]
theorem sc_is_read : FnScope N_is_read ["numbers"] (defScope s_is_read) := ⟨rfl, rfl, rfl, by decide +kernel, rfl, by decide +kernel, by decide +kernel⟩
abbrev N_is_whole : List Str := ["thing"]
theorem sc_is_whole : FnScope N_is_whole ["thing"] (defScope s_is_whole) := ⟨rfl, rfl, rfl, by decide +kernel, rfl, by decide +kernel, by decide +kernel⟩
abbrev N_is_term : List Str := ["thing", "number"]
theorem sc_is_term : FnScope N_is_term ["thing"] (defScope s_is_term) := ⟨rfl, rfl, rfl, by decide +kernel, rfl, by decide +kernel, by decide +kernel⟩
abbrev N_look_term : List Str := ["thing"]
theorem sc_look_term : FnScope N_look_term ["thing"] (defScope s_look_term) := ⟨rfl, rfl, rfl, by decide +kernel, rfl, by decide +kernel, by decide +kernel⟩
abbrev N_look_small : List Str := ["term"]
theorem sc_look_small : FnScope N_look_small ["term"] (defScope s_look_small) := ⟨rfl, rfl, rfl, by decide +kernel, rfl, by decide +kernel, by decide +kernel⟩
abbrev N_openings : List Str := ["term"]
theorem sc_openings : FnScope N_openings ["term"] (defScope s_openings) := ⟨rfl, rfl, rfl, by decide +kernel, rfl, by decide +kernel, by decide +kernel⟩
abbrev N_look_place : List Str := ["place", "term"]
theorem sc_look_place : FnScope N_look_place ["place", "term"] (defScope s_look_place) := ⟨rfl, rfl, rfl, by decide +kernel, rfl, by decide +kernel, by decide +kernel⟩
abbrev N_look_opening : List Str := ["term", "place"]
theorem sc_look_opening : FnScope N_look_opening ["term", "place"] (defScope s_look_opening) := ⟨rfl, rfl, rfl, by decide +kernel, rfl, by decide +kernel, by decide +kernel⟩
abbrev N_moved_by : List Str := ["term", "many", "least", "found", "number", "turns"]
theorem sc_moved_by : FnScope N_moved_by ["term", "many", "least"] (defScope s_moved_by) := ⟨rfl, rfl, rfl, by decide +kernel, rfl, by decide +kernel, by decide +kernel⟩
abbrev N_undo_at : List Str := ["term", "place", "taker"]
theorem sc_undo_at : FnScope N_undo_at ["term", "place"] (defScope s_undo_at) := ⟨rfl, rfl, rfl, by decide +kernel, rfl, by decide +kernel, by decide +kernel⟩
abbrev N_undone : List Str := ["term", "place"]
theorem sc_undone : FnScope N_undone ["term", "place"] (defScope s_undone) := ⟨rfl, rfl, rfl, by decide +kernel, rfl, by decide +kernel, by decide +kernel⟩
abbrev N_law_right : List Str := ["_law_term", "_law_due", "_law_told", "_law_place", "_law_found"]
theorem sc_law_right : FnScope N_law_right ["_law_term"] (defScope s_law_right) := ⟨rfl, rfl, rfl, by decide +kernel, rfl, by decide +kernel, by decide +kernel⟩
abbrev N_law_term_by : List Str := ["_law_cell", "_law_most", "_law_numbers_here", "_law_size", "_law_row", "_law_due", "_law_k", "_law_turns", "_law_spare", "_law_sign"]
theorem sc_law_term_by : FnScope N_law_term_by ["_law_cell", "_law_most"] (defScope s_law_term_by) := ⟨rfl, rfl, rfl, by decide +kernel, rfl, by decide +kernel, by decide +kernel⟩
abbrev N_law : List Str := ["_law_script", "_law_numbers_here", "_law_term", "_law_number", "_law_at", "_law_spoilt", "_law_far", "_law_place", "_law_bad", "_law_great"]
theorem sc_law : FnScope N_law ["_law_script"] (defScope s_law) := ⟨rfl, rfl, rfl, by decide +kernel, rfl, by decide +kernel, by decide +kernel⟩
abbrev N_law_alone : List Str := ["_law_e", "_law_some"]
theorem sc_law_alone : FnScope N_law_alone ["_law_e"] (defScope s_law_alone) := ⟨rfl, rfl, rfl, by decide +kernel, rfl, by decide +kernel, by decide +kernel⟩
abbrev N_law_how : List Str := ["_law_deed", "_law_how_here", "_law_e"]
theorem sc_law_how : FnScope N_law_how ["_law_deed"] (defScope s_law_how) := ⟨rfl, rfl, rfl, by decide +kernel, rfl, by decide +kernel, by decide +kernel⟩
set_option maxHeartbeats 0 in
structure Txt (K : PySem.W.Frag) (mg : Str → Option Value) where
  a_law_cell_at : Addr
  d_law_cell_at : FuncData
  a_law_mixed : Addr
  d_law_mixed : FuncData
  a_law_numbers : Addr
  d_law_numbers : FuncData
  a_law_ends : Addr
  d_law_ends : FuncData
  a_law_about : Addr
  d_law_about : FuncData
  a_law_moved : Addr
  d_law_moved : FuncData
  a_law_opened : Addr
  d_law_opened : FuncData
  a_law_closed_again : Addr
  d_law_closed_again : FuncData
  a_law_openings : Addr
  d_law_openings : FuncData
  a_all_ends : Addr
  d_all_ends : FuncData
  a_all_around : Addr
  d_all_around : FuncData
  a_means_none : Addr
  d_means_none : FuncData
  a_more_due : Addr
  d_more_due : FuncData
  a_part_end : Addr
  d_part_end : FuncData
  a_taker_of : Addr
  d_taker_of : FuncData
  a_is_opening : Addr
  d_is_opening : FuncData
  a_all_openings : Addr
  d_all_openings : FuncData
  a_is_read : Addr
  d_is_read : FuncData
  a_is_whole : Addr
  d_is_whole : FuncData
  a_is_term : Addr
  d_is_term : FuncData
  a_look_term : Addr
  d_look_term : FuncData
  a_look_small : Addr
  d_look_small : FuncData
  a_openings : Addr
  d_openings : FuncData
  a_look_place : Addr
  d_look_place : FuncData
  a_look_opening : Addr
  d_look_opening : FuncData
  a_moved_by : Addr
  d_moved_by : FuncData
  a_undo_at : Addr
  d_undo_at : FuncData
  a_undone : Addr
  d_undone : FuncData
  a_law_right : Addr
  d_law_right : FuncData
  c_law_right : Addr
  p_law_right : Addr
  a_law_term_by : Addr
  d_law_term_by : FuncData
  a_law : Addr
  d_law : FuncData
  c_law : Addr
  p_law : Addr
  a_law_alone : Addr
  d_law_alone : FuncData
  a_law_how : Addr
  d_law_how : FuncData
  F_law_cell_at : Fun K "_law_cell_at" "_law_cell_at" s_law_cell_at a_law_cell_at d_law_cell_at
  g_law_cell_at : mg "_law_cell_at" = some (.ref a_law_cell_at)
  n_law_cell_at : Binds K d_law_cell_at ["_law_script", "_law_k"] []
  F_law_mixed : Fun K "_law_mixed" "_law_mixed" s_law_mixed a_law_mixed d_law_mixed
  g_law_mixed : mg "_law_mixed" = some (.ref a_law_mixed)
  n_law_mixed : Binds K d_law_mixed ["_law_cell", "_law_k"] []
  F_law_numbers : Fun K "_law_numbers" "_law_numbers" s_law_numbers a_law_numbers d_law_numbers
  g_law_numbers : mg "_law_numbers" = some (.ref a_law_numbers)
  n_law_numbers : Binds K d_law_numbers ["_law_cell", "_law_sizes"] []
  F_law_ends : Fun K "_law_ends" "_law_ends" s_law_ends a_law_ends d_law_ends
  g_law_ends : mg "_law_ends" = some (.ref a_law_ends)
  n_law_ends : Binds K d_law_ends ["_law_term"] []
  F_law_about : Fun K "_law_about" "_law_about" s_law_about a_law_about d_law_about
  g_law_about : mg "_law_about" = some (.ref a_law_about)
  n_law_about : Binds K d_law_about ["_law_term"] []
  F_law_moved : Fun K "_law_moved" "_law_moved" s_law_moved a_law_moved d_law_moved
  g_law_moved : mg "_law_moved" = some (.ref a_law_moved)
  n_law_moved : Binds K d_law_moved ["_law_term", "_law_many"] []
  F_law_opened : Fun K "_law_opened" "_law_opened" s_law_opened a_law_opened d_law_opened
  g_law_opened : mg "_law_opened" = some (.ref a_law_opened)
  n_law_opened : Binds K d_law_opened ["_law_term", "_law_place"] []
  F_law_closed_again : Fun K "_law_closed_again" "_law_closed_again" s_law_closed_again a_law_closed_again d_law_closed_again
  g_law_closed_again : mg "_law_closed_again" = some (.ref a_law_closed_again)
  n_law_closed_again : Binds K d_law_closed_again ["_law_term", "_law_place"] []
  F_law_openings : Fun K "_law_openings" "_law_openings" s_law_openings a_law_openings d_law_openings
  g_law_openings : mg "_law_openings" = some (.ref a_law_openings)
  n_law_openings : Binds K d_law_openings ["_law_term"] []
  F_all_ends : Fun K "all_ends" "all_ends" s_all_ends a_all_ends d_all_ends
  g_all_ends : mg "all_ends" = some (.ref a_all_ends)
  n_all_ends : Binds K d_all_ends ["term"] []
  F_all_around : Fun K "all_around" "all_around" s_all_around a_all_around d_all_around
  g_all_around : mg "all_around" = some (.ref a_all_around)
  n_all_around : Binds K d_all_around ["term"] []
  F_means_none : Fun K "means_none" "means_none" s_means_none a_means_none d_means_none
  g_means_none : mg "means_none" = some (.ref a_means_none)
  n_means_none : Binds K d_means_none ["term"] []
  F_more_due : Fun K "more_due" "more_due" s_more_due a_more_due d_more_due
  g_more_due : mg "more_due" = some (.ref a_more_due)
  n_more_due : Binds K d_more_due ["number"] []
  F_part_end : Fun K "part_end" "part_end" s_part_end a_part_end d_part_end
  g_part_end : mg "part_end" = some (.ref a_part_end)
  n_part_end : Binds K d_part_end ["term", "place"] []
  F_taker_of : Fun K "taker_of" "taker_of" s_taker_of a_taker_of d_taker_of
  g_taker_of : mg "taker_of" = some (.ref a_taker_of)
  n_taker_of : Binds K d_taker_of ["term", "place"] []
  F_is_opening : Fun K "is_opening" "is_opening" s_is_opening a_is_opening d_is_opening
  g_is_opening : mg "is_opening" = some (.ref a_is_opening)
  n_is_opening : Binds K d_is_opening ["term", "place"] []
  F_all_openings : Fun K "all_openings" "all_openings" s_all_openings a_all_openings d_all_openings
  g_all_openings : mg "all_openings" = some (.ref a_all_openings)
  n_all_openings : Binds K d_all_openings ["term"] []
  F_is_read : Fun K "is_read" "is_read" s_is_read a_is_read d_is_read
  g_is_read : mg "is_read" = some (.ref a_is_read)
  n_is_read : Binds K d_is_read ["numbers"] []
  F_is_whole : Fun K "is_whole" "is_whole" s_is_whole a_is_whole d_is_whole
  g_is_whole : mg "is_whole" = some (.ref a_is_whole)
  n_is_whole : Binds K d_is_whole ["thing"] []
  F_is_term : Fun K "is_term" "is_term" s_is_term a_is_term d_is_term
  g_is_term : mg "is_term" = some (.ref a_is_term)
  n_is_term : Binds K d_is_term ["thing"] []
  F_look_term : Fun K "look_term" "look_term" s_look_term a_look_term d_look_term
  g_look_term : mg "look_term" = some (.ref a_look_term)
  n_look_term : Binds K d_look_term ["thing"] []
  F_look_small : Fun K "look_small" "look_small" s_look_small a_look_small d_look_small
  g_look_small : mg "look_small" = some (.ref a_look_small)
  n_look_small : Binds K d_look_small ["term"] []
  F_openings : Fun K "openings" "openings" s_openings a_openings d_openings
  g_openings : mg "openings" = some (.ref a_openings)
  n_openings : Binds K d_openings ["term"] []
  F_look_place : Fun K "look_place" "look_place" s_look_place a_look_place d_look_place
  g_look_place : mg "look_place" = some (.ref a_look_place)
  n_look_place : Binds K d_look_place ["place", "term"] []
  F_look_opening : Fun K "look_opening" "look_opening" s_look_opening a_look_opening d_look_opening
  g_look_opening : mg "look_opening" = some (.ref a_look_opening)
  n_look_opening : Binds K d_look_opening ["term", "place"] []
  F_moved_by : Fun K "moved_by" "moved_by" s_moved_by a_moved_by d_moved_by
  g_moved_by : mg "moved_by" = some (.ref a_moved_by)
  n_moved_by : Binds K d_moved_by ["term", "many", "least"] []
  F_undo_at : Fun K "undo_at" "undo_at" s_undo_at a_undo_at d_undo_at
  g_undo_at : mg "undo_at" = some (.ref a_undo_at)
  n_undo_at : Binds K d_undo_at ["term", "place"] []
  F_undone : Fun K "undone" "undone" s_undone a_undone d_undone
  g_undone : mg "undone" = some (.ref a_undone)
  n_undone : Binds K d_undone ["term", "place"] []
  C_law_right : FunC K "_law_right" "_law_right" s_law_right a_law_right d_law_right c_law_right
  F_law_right : Fun K "_law_right" "_law_right" s_law_right a_law_right d_law_right
  g_law_right : mg "_law_right" = some (.ref a_law_right)
  n_law_right : Binds K d_law_right ["_law_term"] []
  F_law_term_by : Fun K "_law_term_by" "_law_term_by" s_law_term_by a_law_term_by d_law_term_by
  g_law_term_by : mg "_law_term_by" = some (.ref a_law_term_by)
  n_law_term_by : Binds K d_law_term_by ["_law_cell", "_law_most"] []
  C_law : FunC K "law" "law" s_law a_law d_law c_law
  F_law : Fun K "law" "law" s_law a_law d_law
  g_law : mg "law" = some (.ref a_law)
  n_law : Binds K d_law ["_law_script"] []
  F_law_alone : Fun K "_law_alone" "_law_alone" s_law_alone a_law_alone d_law_alone
  g_law_alone : mg "_law_alone" = some (.ref a_law_alone)
  n_law_alone : Binds K d_law_alone ["_law_e"] []
  F_law_how : Fun K "_law_how" "_law_how" s_law_how a_law_how d_law_how
  g_law_how : mg "_law_how" = some (.ref a_law_how)
  n_law_how : Binds K d_law_how ["_law_deed"] []
  t_FAR : Tok
  c_FAR : mg "FAR" = some (.int (9999) t_FAR)
  t_GIFT : Tok
  c_GIFT : mg "GIFT" = some (.int (-2) t_GIFT)
  t_MOST : Tok
  c_MOST : mg "MOST" = some (.int (20000) t_MOST)
  t_SMALL : Tok
  c_SMALL : mg "SMALL" = some (.int (200) t_SMALL)
  t_TURN : Tok
  c_TURN : mg "TURN" = some (.int (-1) t_TURN)
  A_NoOpening : Addr
  x_NoOpening : PySem.W.excIn K A_NoOpening [.type "ValueError", .type "Exception", .type "BaseException", .type "object"] "ValueError.__new__" = true
  g_NoOpening : mg "NoOpening" = some (.ref A_NoOpening)
  k_NoOpening : PySem.W.keepIn K (.ref A_NoOpening) = true
  s_NoOpening : PySem.W.subIn K (.ref A_NoOpening) (.type "BaseException") = some true
  t_NoOpening : PySem.W.typeIn K (.ref A_NoOpening) = some (.type "type")
  A_NoPlace : Addr
  x_NoPlace : PySem.W.excIn K A_NoPlace [.type "ValueError", .type "Exception", .type "BaseException", .type "object"] "ValueError.__new__" = true
  g_NoPlace : mg "NoPlace" = some (.ref A_NoPlace)
  k_NoPlace : PySem.W.keepIn K (.ref A_NoPlace) = true
  s_NoPlace : PySem.W.subIn K (.ref A_NoPlace) (.type "BaseException") = some true
  t_NoPlace : PySem.W.typeIn K (.ref A_NoPlace) = some (.type "type")
  A_NoSize : Addr
  x_NoSize : PySem.W.excIn K A_NoSize [.type "ValueError", .type "Exception", .type "BaseException", .type "object"] "ValueError.__new__" = true
  g_NoSize : mg "NoSize" = some (.ref A_NoSize)
  k_NoSize : PySem.W.keepIn K (.ref A_NoSize) = true
  s_NoSize : PySem.W.subIn K (.ref A_NoSize) (.type "BaseException") = some true
  t_NoSize : PySem.W.typeIn K (.ref A_NoSize) = some (.type "type")
  A_NoTerm : Addr
  x_NoTerm : PySem.W.excIn K A_NoTerm [.type "ValueError", .type "Exception", .type "BaseException", .type "object"] "ValueError.__new__" = true
  g_NoTerm : mg "NoTerm" = some (.ref A_NoTerm)
  k_NoTerm : PySem.W.keepIn K (.ref A_NoTerm) = true
  s_NoTerm : PySem.W.subIn K (.ref A_NoTerm) (.type "BaseException") = some true
  t_NoTerm : PySem.W.typeIn K (.ref A_NoTerm) = some (.type "type")
  h_NoTerm : PySem.W.hasDictIn K A_NoTerm = true
  h_NoPlace : PySem.W.hasDictIn K A_NoPlace = true
  A_NoStep : Addr
  g_NoStep : mg "NoStep" = some (.ref A_NoStep)
  t_NoStep : PySem.W.typeIn K (.ref A_NoStep) = some (.type "type")
  h_NoStep : PySem.W.hasDictIn K A_NoStep = true
  A_NoRow : Addr
  g_NoRow : mg "NoRow" = some (.ref A_NoRow)
  t_NoRow : PySem.W.typeIn K (.ref A_NoRow) = some (.type "type")
  h_NoRow : PySem.W.hasDictIn K A_NoRow = true
  A_InOrder : Addr
  g_InOrder : mg "InOrder" = some (.ref A_InOrder)
  t_InOrder : PySem.W.typeIn K (.ref A_InOrder) = some (.type "type")
  h_InOrder : PySem.W.hasDictIn K A_InOrder = true
  h_NoSize : PySem.W.hasDictIn K A_NoSize = true
  A_TooMuch : Addr
  g_TooMuch : mg "TooMuch" = some (.ref A_TooMuch)
  t_TooMuch : PySem.W.typeIn K (.ref A_TooMuch) = some (.type "type")
  h_TooMuch : PySem.W.hasDictIn K A_TooMuch = true
  h_NoOpening : PySem.W.hasDictIn K A_NoOpening = true
  A_NoTree : Addr
  g_NoTree : mg "NoTree" = some (.ref A_NoTree)
  t_NoTree : PySem.W.typeIn K (.ref A_NoTree) = some (.type "type")
  h_NoTree : PySem.W.hasDictIn K A_NoTree = true
  A_NoLast : Addr
  g_NoLast : mg "NoLast" = some (.ref A_NoLast)
  t_NoLast : PySem.W.typeIn K (.ref A_NoLast) = some (.type "type")
  h_NoLast : PySem.W.hasDictIn K A_NoLast = true
  A_Alike : Addr
  g_Alike : mg "Alike" = some (.ref A_Alike)
  t_Alike : PySem.W.typeIn K (.ref A_Alike) = some (.type "type")
  h_Alike : PySem.W.hasDictIn K A_Alike = true
  A_NotAlike : Addr
  g_NotAlike : mg "NotAlike" = some (.ref A_NotAlike)
  t_NotAlike : PySem.W.typeIn K (.ref A_NotAlike) = some (.type "type")
  h_NotAlike : PySem.W.hasDictIn K A_NotAlike = true
  A_NoHole : Addr
  g_NoHole : mg "NoHole" = some (.ref A_NoHole)
  t_NoHole : PySem.W.typeIn K (.ref A_NoHole) = some (.type "type")
  h_NoHole : PySem.W.hasDictIn K A_NoHole = true
  A_NoForms : Addr
  g_NoForms : mg "NoForms" = some (.ref A_NoForms)
  t_NoForms : PySem.W.typeIn K (.ref A_NoForms) = some (.type "type")
  h_NoForms : PySem.W.hasDictIn K A_NoForms = true
  A_NoLink : Addr
  g_NoLink : mg "NoLink" = some (.ref A_NoLink)
  t_NoLink : PySem.W.typeIn K (.ref A_NoLink) = some (.type "type")
  h_NoLink : PySem.W.hasDictIn K A_NoLink = true
  A_NoText : Addr
  g_NoText : mg "NoText" = some (.ref A_NoText)
  t_NoText : PySem.W.typeIn K (.ref A_NoText) = some (.type "type")
  h_NoText : PySem.W.hasDictIn K A_NoText = true
  A_NoName : Addr
  g_NoName : mg "NoName" = some (.ref A_NoName)
  t_NoName : PySem.W.typeIn K (.ref A_NoName) = some (.type "type")
  h_NoName : PySem.W.hasDictIn K A_NoName = true
  A_Wrong : Addr
  g_Wrong : mg "Wrong" = some (.ref A_Wrong)
  t_Wrong : PySem.W.typeIn K (.ref A_Wrong) = some (.type "type")
  s_Wrong : PySem.W.subIn K (.ref A_Wrong) (.type "BaseException") = some true
  h_Wrong : PySem.W.hasDictIn K A_Wrong = true
  e_NoTerm : ExcC K A_NoTerm
  q_NoTerm_NoTerm : PySem.W.subIn K (.ref A_NoTerm) (.ref A_NoTerm) = some true
  q_NoTerm_NoPlace : PySem.W.subIn K (.ref A_NoTerm) (.ref A_NoPlace) = some false
  q_NoTerm_NoStep : PySem.W.subIn K (.ref A_NoTerm) (.ref A_NoStep) = some false
  q_NoTerm_NoRow : PySem.W.subIn K (.ref A_NoTerm) (.ref A_NoRow) = some false
  q_NoTerm_InOrder : PySem.W.subIn K (.ref A_NoTerm) (.ref A_InOrder) = some false
  q_NoTerm_NoSize : PySem.W.subIn K (.ref A_NoTerm) (.ref A_NoSize) = some false
  q_NoTerm_TooMuch : PySem.W.subIn K (.ref A_NoTerm) (.ref A_TooMuch) = some false
  q_NoTerm_NoOpening : PySem.W.subIn K (.ref A_NoTerm) (.ref A_NoOpening) = some false
  q_NoTerm_NoTree : PySem.W.subIn K (.ref A_NoTerm) (.ref A_NoTree) = some false
  q_NoTerm_NoLast : PySem.W.subIn K (.ref A_NoTerm) (.ref A_NoLast) = some false
  q_NoTerm_Alike : PySem.W.subIn K (.ref A_NoTerm) (.ref A_Alike) = some false
  q_NoTerm_NotAlike : PySem.W.subIn K (.ref A_NoTerm) (.ref A_NotAlike) = some false
  q_NoTerm_NoHole : PySem.W.subIn K (.ref A_NoTerm) (.ref A_NoHole) = some false
  q_NoTerm_NoForms : PySem.W.subIn K (.ref A_NoTerm) (.ref A_NoForms) = some false
  q_NoTerm_NoLink : PySem.W.subIn K (.ref A_NoTerm) (.ref A_NoLink) = some false
  q_NoTerm_NoText : PySem.W.subIn K (.ref A_NoTerm) (.ref A_NoText) = some false
  q_NoTerm_NoName : PySem.W.subIn K (.ref A_NoTerm) (.ref A_NoName) = some false
  q_NoTerm_V : PySem.W.subIn K (.ref A_NoTerm) (.type "ValueError") = some true
  q_NoTerm_W : PySem.W.subIn K (.ref A_NoTerm) (.ref A_Wrong) = some true
  e_NoPlace : ExcC K A_NoPlace
  q_NoPlace_NoTerm : PySem.W.subIn K (.ref A_NoPlace) (.ref A_NoTerm) = some false
  q_NoPlace_NoPlace : PySem.W.subIn K (.ref A_NoPlace) (.ref A_NoPlace) = some true
  q_NoPlace_NoStep : PySem.W.subIn K (.ref A_NoPlace) (.ref A_NoStep) = some false
  q_NoPlace_NoRow : PySem.W.subIn K (.ref A_NoPlace) (.ref A_NoRow) = some false
  q_NoPlace_InOrder : PySem.W.subIn K (.ref A_NoPlace) (.ref A_InOrder) = some false
  q_NoPlace_NoSize : PySem.W.subIn K (.ref A_NoPlace) (.ref A_NoSize) = some false
  q_NoPlace_TooMuch : PySem.W.subIn K (.ref A_NoPlace) (.ref A_TooMuch) = some false
  q_NoPlace_NoOpening : PySem.W.subIn K (.ref A_NoPlace) (.ref A_NoOpening) = some false
  q_NoPlace_NoTree : PySem.W.subIn K (.ref A_NoPlace) (.ref A_NoTree) = some false
  q_NoPlace_NoLast : PySem.W.subIn K (.ref A_NoPlace) (.ref A_NoLast) = some false
  q_NoPlace_Alike : PySem.W.subIn K (.ref A_NoPlace) (.ref A_Alike) = some false
  q_NoPlace_NotAlike : PySem.W.subIn K (.ref A_NoPlace) (.ref A_NotAlike) = some false
  q_NoPlace_NoHole : PySem.W.subIn K (.ref A_NoPlace) (.ref A_NoHole) = some false
  q_NoPlace_NoForms : PySem.W.subIn K (.ref A_NoPlace) (.ref A_NoForms) = some false
  q_NoPlace_NoLink : PySem.W.subIn K (.ref A_NoPlace) (.ref A_NoLink) = some false
  q_NoPlace_NoText : PySem.W.subIn K (.ref A_NoPlace) (.ref A_NoText) = some false
  q_NoPlace_NoName : PySem.W.subIn K (.ref A_NoPlace) (.ref A_NoName) = some false
  q_NoPlace_V : PySem.W.subIn K (.ref A_NoPlace) (.type "ValueError") = some true
  q_NoPlace_W : PySem.W.subIn K (.ref A_NoPlace) (.ref A_Wrong) = some true
  e_NoSize : ExcC K A_NoSize
  q_NoSize_NoTerm : PySem.W.subIn K (.ref A_NoSize) (.ref A_NoTerm) = some false
  q_NoSize_NoPlace : PySem.W.subIn K (.ref A_NoSize) (.ref A_NoPlace) = some false
  q_NoSize_NoStep : PySem.W.subIn K (.ref A_NoSize) (.ref A_NoStep) = some false
  q_NoSize_NoRow : PySem.W.subIn K (.ref A_NoSize) (.ref A_NoRow) = some false
  q_NoSize_InOrder : PySem.W.subIn K (.ref A_NoSize) (.ref A_InOrder) = some false
  q_NoSize_NoSize : PySem.W.subIn K (.ref A_NoSize) (.ref A_NoSize) = some true
  q_NoSize_TooMuch : PySem.W.subIn K (.ref A_NoSize) (.ref A_TooMuch) = some false
  q_NoSize_NoOpening : PySem.W.subIn K (.ref A_NoSize) (.ref A_NoOpening) = some false
  q_NoSize_NoTree : PySem.W.subIn K (.ref A_NoSize) (.ref A_NoTree) = some false
  q_NoSize_NoLast : PySem.W.subIn K (.ref A_NoSize) (.ref A_NoLast) = some false
  q_NoSize_Alike : PySem.W.subIn K (.ref A_NoSize) (.ref A_Alike) = some false
  q_NoSize_NotAlike : PySem.W.subIn K (.ref A_NoSize) (.ref A_NotAlike) = some false
  q_NoSize_NoHole : PySem.W.subIn K (.ref A_NoSize) (.ref A_NoHole) = some false
  q_NoSize_NoForms : PySem.W.subIn K (.ref A_NoSize) (.ref A_NoForms) = some false
  q_NoSize_NoLink : PySem.W.subIn K (.ref A_NoSize) (.ref A_NoLink) = some false
  q_NoSize_NoText : PySem.W.subIn K (.ref A_NoSize) (.ref A_NoText) = some false
  q_NoSize_NoName : PySem.W.subIn K (.ref A_NoSize) (.ref A_NoName) = some false
  q_NoSize_V : PySem.W.subIn K (.ref A_NoSize) (.type "ValueError") = some true
  q_NoSize_W : PySem.W.subIn K (.ref A_NoSize) (.ref A_Wrong) = some true
  e_NoOpening : ExcC K A_NoOpening
  q_NoOpening_NoTerm : PySem.W.subIn K (.ref A_NoOpening) (.ref A_NoTerm) = some false
  q_NoOpening_NoPlace : PySem.W.subIn K (.ref A_NoOpening) (.ref A_NoPlace) = some false
  q_NoOpening_NoStep : PySem.W.subIn K (.ref A_NoOpening) (.ref A_NoStep) = some false
  q_NoOpening_NoRow : PySem.W.subIn K (.ref A_NoOpening) (.ref A_NoRow) = some false
  q_NoOpening_InOrder : PySem.W.subIn K (.ref A_NoOpening) (.ref A_InOrder) = some false
  q_NoOpening_NoSize : PySem.W.subIn K (.ref A_NoOpening) (.ref A_NoSize) = some false
  q_NoOpening_TooMuch : PySem.W.subIn K (.ref A_NoOpening) (.ref A_TooMuch) = some false
  q_NoOpening_NoOpening : PySem.W.subIn K (.ref A_NoOpening) (.ref A_NoOpening) = some true
  q_NoOpening_NoTree : PySem.W.subIn K (.ref A_NoOpening) (.ref A_NoTree) = some false
  q_NoOpening_NoLast : PySem.W.subIn K (.ref A_NoOpening) (.ref A_NoLast) = some false
  q_NoOpening_Alike : PySem.W.subIn K (.ref A_NoOpening) (.ref A_Alike) = some false
  q_NoOpening_NotAlike : PySem.W.subIn K (.ref A_NoOpening) (.ref A_NotAlike) = some false
  q_NoOpening_NoHole : PySem.W.subIn K (.ref A_NoOpening) (.ref A_NoHole) = some false
  q_NoOpening_NoForms : PySem.W.subIn K (.ref A_NoOpening) (.ref A_NoForms) = some false
  q_NoOpening_NoLink : PySem.W.subIn K (.ref A_NoOpening) (.ref A_NoLink) = some false
  q_NoOpening_NoText : PySem.W.subIn K (.ref A_NoOpening) (.ref A_NoText) = some false
  q_NoOpening_NoName : PySem.W.subIn K (.ref A_NoOpening) (.ref A_NoName) = some false
  q_NoOpening_V : PySem.W.subIn K (.ref A_NoOpening) (.type "ValueError") = some true
  q_NoOpening_W : PySem.W.subIn K (.ref A_NoOpening) (.ref A_Wrong) = some true
  b_ValueError : mg "ValueError" = none
  b_all : mg "all" = none
  b_bool : mg "bool" = none
  b_enumerate : mg "enumerate" = none
  b_int : mg "int" = none
  b_isinstance : mg "isinstance" = none
  b_len : mg "len" = none
  b_list : mg "list" = none
  b_range : mg "range" = none
  b_sum : mg "sum" = none
  b_tuple : mg "tuple" = none
  b_zip : mg "zip" = none
structure Tb {K : PySem.W.Frag} {mg : Str → Option Value} (T : Txt K mg) (Ts : List (Addr × Str)) (base : Heap) : Prop where
  b_law_right : LamX.TabB base mg T.c_law_right T.p_law_right
  m_law_right : (T.p_law_right, ((("_law_right" : Str) ++ ".<locals>.") ++ "<lambda>" : Str)) ∈ Ts
  u_law_right : ∀ p ∈ Ts, p.1 = T.p_law_right → p.2 = ((("_law_right" : Str) ++ ".<locals>.") ++ "<lambda>" : Str)
  b_law : LamX.TabB base mg T.c_law T.p_law
  m_law : (T.p_law, ((("law" : Str) ++ ".<locals>.") ++ "<lambda>" : Str)) ∈ Ts
  u_law : ∀ p ∈ Ts, p.1 = T.p_law → p.2 = ((("law" : Str) ++ ".<locals>.") ++ "<lambda>" : Str)
section
variable {P : Program} {w : World} {K : PySem.W.Frag} {mg : Str → Option Value} {base : Heap} {Ts : List (Addr × Str)}
theorem kt_NoTerm_NoTerm (T : Txt K mg) : PySem.W.kitOne K (.ref T.A_NoTerm) (.ref T.A_NoTerm) = some true := kit_same
theorem kt_NoTerm_NoPlace (T : Txt K mg) : PySem.W.kitOne K (.ref T.A_NoTerm) (.ref T.A_NoPlace) = some false := kit_other T.h_NoPlace T.t_NoPlace T.q_NoTerm_NoPlace T.q_NoTerm_NoTerm
theorem kt_NoTerm_NoStep (T : Txt K mg) : PySem.W.kitOne K (.ref T.A_NoTerm) (.ref T.A_NoStep) = some false := kit_other T.h_NoStep T.t_NoStep T.q_NoTerm_NoStep T.q_NoTerm_NoTerm
theorem kt_NoTerm_NoRow (T : Txt K mg) : PySem.W.kitOne K (.ref T.A_NoTerm) (.ref T.A_NoRow) = some false := kit_other T.h_NoRow T.t_NoRow T.q_NoTerm_NoRow T.q_NoTerm_NoTerm
theorem kt_NoTerm_InOrder (T : Txt K mg) : PySem.W.kitOne K (.ref T.A_NoTerm) (.ref T.A_InOrder) = some false := kit_other T.h_InOrder T.t_InOrder T.q_NoTerm_InOrder T.q_NoTerm_NoTerm
theorem kt_NoTerm_NoSize (T : Txt K mg) : PySem.W.kitOne K (.ref T.A_NoTerm) (.ref T.A_NoSize) = some false := kit_other T.h_NoSize T.t_NoSize T.q_NoTerm_NoSize T.q_NoTerm_NoTerm
theorem kt_NoTerm_TooMuch (T : Txt K mg) : PySem.W.kitOne K (.ref T.A_NoTerm) (.ref T.A_TooMuch) = some false := kit_other T.h_TooMuch T.t_TooMuch T.q_NoTerm_TooMuch T.q_NoTerm_NoTerm
theorem kt_NoTerm_NoOpening (T : Txt K mg) : PySem.W.kitOne K (.ref T.A_NoTerm) (.ref T.A_NoOpening) = some false := kit_other T.h_NoOpening T.t_NoOpening T.q_NoTerm_NoOpening T.q_NoTerm_NoTerm
theorem kt_NoTerm_NoTree (T : Txt K mg) : PySem.W.kitOne K (.ref T.A_NoTerm) (.ref T.A_NoTree) = some false := kit_other T.h_NoTree T.t_NoTree T.q_NoTerm_NoTree T.q_NoTerm_NoTerm
theorem kt_NoTerm_NoLast (T : Txt K mg) : PySem.W.kitOne K (.ref T.A_NoTerm) (.ref T.A_NoLast) = some false := kit_other T.h_NoLast T.t_NoLast T.q_NoTerm_NoLast T.q_NoTerm_NoTerm
theorem kt_NoTerm_Alike (T : Txt K mg) : PySem.W.kitOne K (.ref T.A_NoTerm) (.ref T.A_Alike) = some false := kit_other T.h_Alike T.t_Alike T.q_NoTerm_Alike T.q_NoTerm_NoTerm
theorem kt_NoTerm_NotAlike (T : Txt K mg) : PySem.W.kitOne K (.ref T.A_NoTerm) (.ref T.A_NotAlike) = some false := kit_other T.h_NotAlike T.t_NotAlike T.q_NoTerm_NotAlike T.q_NoTerm_NoTerm
theorem kt_NoTerm_NoHole (T : Txt K mg) : PySem.W.kitOne K (.ref T.A_NoTerm) (.ref T.A_NoHole) = some false := kit_other T.h_NoHole T.t_NoHole T.q_NoTerm_NoHole T.q_NoTerm_NoTerm
theorem kt_NoTerm_NoForms (T : Txt K mg) : PySem.W.kitOne K (.ref T.A_NoTerm) (.ref T.A_NoForms) = some false := kit_other T.h_NoForms T.t_NoForms T.q_NoTerm_NoForms T.q_NoTerm_NoTerm
theorem kt_NoTerm_NoLink (T : Txt K mg) : PySem.W.kitOne K (.ref T.A_NoTerm) (.ref T.A_NoLink) = some false := kit_other T.h_NoLink T.t_NoLink T.q_NoTerm_NoLink T.q_NoTerm_NoTerm
theorem kt_NoTerm_NoText (T : Txt K mg) : PySem.W.kitOne K (.ref T.A_NoTerm) (.ref T.A_NoText) = some false := kit_other T.h_NoText T.t_NoText T.q_NoTerm_NoText T.q_NoTerm_NoTerm
theorem kt_NoTerm_NoName (T : Txt K mg) : PySem.W.kitOne K (.ref T.A_NoTerm) (.ref T.A_NoName) = some false := kit_other T.h_NoName T.t_NoName T.q_NoTerm_NoName T.q_NoTerm_NoTerm
theorem kt_NoTerm_V (T : Txt K mg) : PySem.W.kitOne K (.ref T.A_NoTerm) (.type "ValueError") = some true := kit_ve T.q_NoTerm_V
theorem kt_NoTerm_Wrong (T : Txt K mg) : PySem.W.kitOne K (.ref T.A_NoTerm) (.ref T.A_Wrong) = some true := kit_up T.h_Wrong T.t_Wrong T.q_NoTerm_W
theorem kt_NoPlace_NoTerm (T : Txt K mg) : PySem.W.kitOne K (.ref T.A_NoPlace) (.ref T.A_NoTerm) = some false := kit_other T.h_NoTerm T.t_NoTerm T.q_NoPlace_NoTerm T.q_NoPlace_NoPlace
theorem kt_NoPlace_NoPlace (T : Txt K mg) : PySem.W.kitOne K (.ref T.A_NoPlace) (.ref T.A_NoPlace) = some true := kit_same
theorem kt_NoPlace_NoStep (T : Txt K mg) : PySem.W.kitOne K (.ref T.A_NoPlace) (.ref T.A_NoStep) = some false := kit_other T.h_NoStep T.t_NoStep T.q_NoPlace_NoStep T.q_NoPlace_NoPlace
theorem kt_NoPlace_NoRow (T : Txt K mg) : PySem.W.kitOne K (.ref T.A_NoPlace) (.ref T.A_NoRow) = some false := kit_other T.h_NoRow T.t_NoRow T.q_NoPlace_NoRow T.q_NoPlace_NoPlace
theorem kt_NoPlace_InOrder (T : Txt K mg) : PySem.W.kitOne K (.ref T.A_NoPlace) (.ref T.A_InOrder) = some false := kit_other T.h_InOrder T.t_InOrder T.q_NoPlace_InOrder T.q_NoPlace_NoPlace
theorem kt_NoPlace_NoSize (T : Txt K mg) : PySem.W.kitOne K (.ref T.A_NoPlace) (.ref T.A_NoSize) = some false := kit_other T.h_NoSize T.t_NoSize T.q_NoPlace_NoSize T.q_NoPlace_NoPlace
theorem kt_NoPlace_TooMuch (T : Txt K mg) : PySem.W.kitOne K (.ref T.A_NoPlace) (.ref T.A_TooMuch) = some false := kit_other T.h_TooMuch T.t_TooMuch T.q_NoPlace_TooMuch T.q_NoPlace_NoPlace
theorem kt_NoPlace_NoOpening (T : Txt K mg) : PySem.W.kitOne K (.ref T.A_NoPlace) (.ref T.A_NoOpening) = some false := kit_other T.h_NoOpening T.t_NoOpening T.q_NoPlace_NoOpening T.q_NoPlace_NoPlace
theorem kt_NoPlace_NoTree (T : Txt K mg) : PySem.W.kitOne K (.ref T.A_NoPlace) (.ref T.A_NoTree) = some false := kit_other T.h_NoTree T.t_NoTree T.q_NoPlace_NoTree T.q_NoPlace_NoPlace
theorem kt_NoPlace_NoLast (T : Txt K mg) : PySem.W.kitOne K (.ref T.A_NoPlace) (.ref T.A_NoLast) = some false := kit_other T.h_NoLast T.t_NoLast T.q_NoPlace_NoLast T.q_NoPlace_NoPlace
theorem kt_NoPlace_Alike (T : Txt K mg) : PySem.W.kitOne K (.ref T.A_NoPlace) (.ref T.A_Alike) = some false := kit_other T.h_Alike T.t_Alike T.q_NoPlace_Alike T.q_NoPlace_NoPlace
theorem kt_NoPlace_NotAlike (T : Txt K mg) : PySem.W.kitOne K (.ref T.A_NoPlace) (.ref T.A_NotAlike) = some false := kit_other T.h_NotAlike T.t_NotAlike T.q_NoPlace_NotAlike T.q_NoPlace_NoPlace
theorem kt_NoPlace_NoHole (T : Txt K mg) : PySem.W.kitOne K (.ref T.A_NoPlace) (.ref T.A_NoHole) = some false := kit_other T.h_NoHole T.t_NoHole T.q_NoPlace_NoHole T.q_NoPlace_NoPlace
theorem kt_NoPlace_NoForms (T : Txt K mg) : PySem.W.kitOne K (.ref T.A_NoPlace) (.ref T.A_NoForms) = some false := kit_other T.h_NoForms T.t_NoForms T.q_NoPlace_NoForms T.q_NoPlace_NoPlace
theorem kt_NoPlace_NoLink (T : Txt K mg) : PySem.W.kitOne K (.ref T.A_NoPlace) (.ref T.A_NoLink) = some false := kit_other T.h_NoLink T.t_NoLink T.q_NoPlace_NoLink T.q_NoPlace_NoPlace
theorem kt_NoPlace_NoText (T : Txt K mg) : PySem.W.kitOne K (.ref T.A_NoPlace) (.ref T.A_NoText) = some false := kit_other T.h_NoText T.t_NoText T.q_NoPlace_NoText T.q_NoPlace_NoPlace
theorem kt_NoPlace_NoName (T : Txt K mg) : PySem.W.kitOne K (.ref T.A_NoPlace) (.ref T.A_NoName) = some false := kit_other T.h_NoName T.t_NoName T.q_NoPlace_NoName T.q_NoPlace_NoPlace
theorem kt_NoPlace_V (T : Txt K mg) : PySem.W.kitOne K (.ref T.A_NoPlace) (.type "ValueError") = some true := kit_ve T.q_NoPlace_V
theorem kt_NoPlace_Wrong (T : Txt K mg) : PySem.W.kitOne K (.ref T.A_NoPlace) (.ref T.A_Wrong) = some true := kit_up T.h_Wrong T.t_Wrong T.q_NoPlace_W
theorem kt_NoSize_NoTerm (T : Txt K mg) : PySem.W.kitOne K (.ref T.A_NoSize) (.ref T.A_NoTerm) = some false := kit_other T.h_NoTerm T.t_NoTerm T.q_NoSize_NoTerm T.q_NoSize_NoSize
theorem kt_NoSize_NoPlace (T : Txt K mg) : PySem.W.kitOne K (.ref T.A_NoSize) (.ref T.A_NoPlace) = some false := kit_other T.h_NoPlace T.t_NoPlace T.q_NoSize_NoPlace T.q_NoSize_NoSize
theorem kt_NoSize_NoStep (T : Txt K mg) : PySem.W.kitOne K (.ref T.A_NoSize) (.ref T.A_NoStep) = some false := kit_other T.h_NoStep T.t_NoStep T.q_NoSize_NoStep T.q_NoSize_NoSize
theorem kt_NoSize_NoRow (T : Txt K mg) : PySem.W.kitOne K (.ref T.A_NoSize) (.ref T.A_NoRow) = some false := kit_other T.h_NoRow T.t_NoRow T.q_NoSize_NoRow T.q_NoSize_NoSize
theorem kt_NoSize_InOrder (T : Txt K mg) : PySem.W.kitOne K (.ref T.A_NoSize) (.ref T.A_InOrder) = some false := kit_other T.h_InOrder T.t_InOrder T.q_NoSize_InOrder T.q_NoSize_NoSize
theorem kt_NoSize_NoSize (T : Txt K mg) : PySem.W.kitOne K (.ref T.A_NoSize) (.ref T.A_NoSize) = some true := kit_same
theorem kt_NoSize_TooMuch (T : Txt K mg) : PySem.W.kitOne K (.ref T.A_NoSize) (.ref T.A_TooMuch) = some false := kit_other T.h_TooMuch T.t_TooMuch T.q_NoSize_TooMuch T.q_NoSize_NoSize
theorem kt_NoSize_NoOpening (T : Txt K mg) : PySem.W.kitOne K (.ref T.A_NoSize) (.ref T.A_NoOpening) = some false := kit_other T.h_NoOpening T.t_NoOpening T.q_NoSize_NoOpening T.q_NoSize_NoSize
theorem kt_NoSize_NoTree (T : Txt K mg) : PySem.W.kitOne K (.ref T.A_NoSize) (.ref T.A_NoTree) = some false := kit_other T.h_NoTree T.t_NoTree T.q_NoSize_NoTree T.q_NoSize_NoSize
theorem kt_NoSize_NoLast (T : Txt K mg) : PySem.W.kitOne K (.ref T.A_NoSize) (.ref T.A_NoLast) = some false := kit_other T.h_NoLast T.t_NoLast T.q_NoSize_NoLast T.q_NoSize_NoSize
theorem kt_NoSize_Alike (T : Txt K mg) : PySem.W.kitOne K (.ref T.A_NoSize) (.ref T.A_Alike) = some false := kit_other T.h_Alike T.t_Alike T.q_NoSize_Alike T.q_NoSize_NoSize
theorem kt_NoSize_NotAlike (T : Txt K mg) : PySem.W.kitOne K (.ref T.A_NoSize) (.ref T.A_NotAlike) = some false := kit_other T.h_NotAlike T.t_NotAlike T.q_NoSize_NotAlike T.q_NoSize_NoSize
theorem kt_NoSize_NoHole (T : Txt K mg) : PySem.W.kitOne K (.ref T.A_NoSize) (.ref T.A_NoHole) = some false := kit_other T.h_NoHole T.t_NoHole T.q_NoSize_NoHole T.q_NoSize_NoSize
theorem kt_NoSize_NoForms (T : Txt K mg) : PySem.W.kitOne K (.ref T.A_NoSize) (.ref T.A_NoForms) = some false := kit_other T.h_NoForms T.t_NoForms T.q_NoSize_NoForms T.q_NoSize_NoSize
theorem kt_NoSize_NoLink (T : Txt K mg) : PySem.W.kitOne K (.ref T.A_NoSize) (.ref T.A_NoLink) = some false := kit_other T.h_NoLink T.t_NoLink T.q_NoSize_NoLink T.q_NoSize_NoSize
theorem kt_NoSize_NoText (T : Txt K mg) : PySem.W.kitOne K (.ref T.A_NoSize) (.ref T.A_NoText) = some false := kit_other T.h_NoText T.t_NoText T.q_NoSize_NoText T.q_NoSize_NoSize
theorem kt_NoSize_NoName (T : Txt K mg) : PySem.W.kitOne K (.ref T.A_NoSize) (.ref T.A_NoName) = some false := kit_other T.h_NoName T.t_NoName T.q_NoSize_NoName T.q_NoSize_NoSize
theorem kt_NoSize_V (T : Txt K mg) : PySem.W.kitOne K (.ref T.A_NoSize) (.type "ValueError") = some true := kit_ve T.q_NoSize_V
theorem kt_NoSize_Wrong (T : Txt K mg) : PySem.W.kitOne K (.ref T.A_NoSize) (.ref T.A_Wrong) = some true := kit_up T.h_Wrong T.t_Wrong T.q_NoSize_W
theorem kt_NoOpening_NoTerm (T : Txt K mg) : PySem.W.kitOne K (.ref T.A_NoOpening) (.ref T.A_NoTerm) = some false := kit_other T.h_NoTerm T.t_NoTerm T.q_NoOpening_NoTerm T.q_NoOpening_NoOpening
theorem kt_NoOpening_NoPlace (T : Txt K mg) : PySem.W.kitOne K (.ref T.A_NoOpening) (.ref T.A_NoPlace) = some false := kit_other T.h_NoPlace T.t_NoPlace T.q_NoOpening_NoPlace T.q_NoOpening_NoOpening
theorem kt_NoOpening_NoStep (T : Txt K mg) : PySem.W.kitOne K (.ref T.A_NoOpening) (.ref T.A_NoStep) = some false := kit_other T.h_NoStep T.t_NoStep T.q_NoOpening_NoStep T.q_NoOpening_NoOpening
theorem kt_NoOpening_NoRow (T : Txt K mg) : PySem.W.kitOne K (.ref T.A_NoOpening) (.ref T.A_NoRow) = some false := kit_other T.h_NoRow T.t_NoRow T.q_NoOpening_NoRow T.q_NoOpening_NoOpening
theorem kt_NoOpening_InOrder (T : Txt K mg) : PySem.W.kitOne K (.ref T.A_NoOpening) (.ref T.A_InOrder) = some false := kit_other T.h_InOrder T.t_InOrder T.q_NoOpening_InOrder T.q_NoOpening_NoOpening
theorem kt_NoOpening_NoSize (T : Txt K mg) : PySem.W.kitOne K (.ref T.A_NoOpening) (.ref T.A_NoSize) = some false := kit_other T.h_NoSize T.t_NoSize T.q_NoOpening_NoSize T.q_NoOpening_NoOpening
theorem kt_NoOpening_TooMuch (T : Txt K mg) : PySem.W.kitOne K (.ref T.A_NoOpening) (.ref T.A_TooMuch) = some false := kit_other T.h_TooMuch T.t_TooMuch T.q_NoOpening_TooMuch T.q_NoOpening_NoOpening
theorem kt_NoOpening_NoOpening (T : Txt K mg) : PySem.W.kitOne K (.ref T.A_NoOpening) (.ref T.A_NoOpening) = some true := kit_same
theorem kt_NoOpening_NoTree (T : Txt K mg) : PySem.W.kitOne K (.ref T.A_NoOpening) (.ref T.A_NoTree) = some false := kit_other T.h_NoTree T.t_NoTree T.q_NoOpening_NoTree T.q_NoOpening_NoOpening
theorem kt_NoOpening_NoLast (T : Txt K mg) : PySem.W.kitOne K (.ref T.A_NoOpening) (.ref T.A_NoLast) = some false := kit_other T.h_NoLast T.t_NoLast T.q_NoOpening_NoLast T.q_NoOpening_NoOpening
theorem kt_NoOpening_Alike (T : Txt K mg) : PySem.W.kitOne K (.ref T.A_NoOpening) (.ref T.A_Alike) = some false := kit_other T.h_Alike T.t_Alike T.q_NoOpening_Alike T.q_NoOpening_NoOpening
theorem kt_NoOpening_NotAlike (T : Txt K mg) : PySem.W.kitOne K (.ref T.A_NoOpening) (.ref T.A_NotAlike) = some false := kit_other T.h_NotAlike T.t_NotAlike T.q_NoOpening_NotAlike T.q_NoOpening_NoOpening
theorem kt_NoOpening_NoHole (T : Txt K mg) : PySem.W.kitOne K (.ref T.A_NoOpening) (.ref T.A_NoHole) = some false := kit_other T.h_NoHole T.t_NoHole T.q_NoOpening_NoHole T.q_NoOpening_NoOpening
theorem kt_NoOpening_NoForms (T : Txt K mg) : PySem.W.kitOne K (.ref T.A_NoOpening) (.ref T.A_NoForms) = some false := kit_other T.h_NoForms T.t_NoForms T.q_NoOpening_NoForms T.q_NoOpening_NoOpening
theorem kt_NoOpening_NoLink (T : Txt K mg) : PySem.W.kitOne K (.ref T.A_NoOpening) (.ref T.A_NoLink) = some false := kit_other T.h_NoLink T.t_NoLink T.q_NoOpening_NoLink T.q_NoOpening_NoOpening
theorem kt_NoOpening_NoText (T : Txt K mg) : PySem.W.kitOne K (.ref T.A_NoOpening) (.ref T.A_NoText) = some false := kit_other T.h_NoText T.t_NoText T.q_NoOpening_NoText T.q_NoOpening_NoOpening
theorem kt_NoOpening_NoName (T : Txt K mg) : PySem.W.kitOne K (.ref T.A_NoOpening) (.ref T.A_NoName) = some false := kit_other T.h_NoName T.t_NoName T.q_NoOpening_NoName T.q_NoOpening_NoOpening
theorem kt_NoOpening_V (T : Txt K mg) : PySem.W.kitOne K (.ref T.A_NoOpening) (.type "ValueError") = some true := kit_ve T.q_NoOpening_V
theorem kt_NoOpening_Wrong (T : Txt K mg) : PySem.W.kitOne K (.ref T.A_NoOpening) (.ref T.A_Wrong) = some true := kit_up T.h_Wrong T.t_Wrong T.q_NoOpening_W
theorem okP_law_alone_NoTerm (T : Txt K mg) : FnP P w ⟨K, Ts⟩ mg base 1 T.a_law_alone T.d_law_alone ["_law_e"] T.A_NoTerm (.bl true) :=
  fnP_ok (K := ⟨K, Ts⟩) (k := 0) (nN := 1) (m := bx_law_alone_NoTerm) T.F_law_alone sc_law_alone rfl (fun cdv A outer s H a dx oe hr hz hf => have sc := sc_law_alone
    (ss_cons (ss_set (i := 1) sc.nd rfl (by first | exact Or.inl rfl | exact Or.inr rfl) (se_lst (sa_cons (se_isP T.e_NoTerm hz hf (List.mem_cons_self) (by rfl) T.b_isinstance (pv 0) (by rfl) T.g_Alike (by decide) (kt_NoTerm_Alike T)) (sa_cons (se_isP T.e_NoTerm hz hf (List.mem_cons_self) (by rfl) T.b_isinstance (pv 0) (by rfl) T.g_InOrder (by decide) (kt_NoTerm_InOrder T)) (sa_cons (se_isP T.e_NoTerm hz hf (List.mem_cons_self) (by rfl) T.b_isinstance (pv 0) (by rfl) T.g_NoForms (by decide) (kt_NoTerm_NoForms T)) (sa_cons (se_isP T.e_NoTerm hz hf (List.mem_cons_self) (by rfl) T.b_isinstance (pv 0) (by rfl) T.g_NoHole (by decide) (kt_NoTerm_NoHole T)) sa_nil))))))
  (ss_cons (ss_aug (i := 1) sc.nd rfl (by first | exact Or.inl rfl | exact Or.inr rfl) (se_lst (sa_cons (se_isP T.e_NoTerm hz hf (List.mem_cons_self) (by rfl) T.b_isinstance (pv 0) (by rfl) T.g_NoLast (by decide) (kt_NoTerm_NoLast T)) (sa_cons (se_isP T.e_NoTerm hz hf (List.mem_cons_self) (by rfl) T.b_isinstance (pv 0) (by rfl) T.g_NoLink (by decide) (kt_NoTerm_NoLink T)) (sa_cons (se_isP T.e_NoTerm hz hf (List.mem_cons_self) (by rfl) T.b_isinstance (pv 0) (by rfl) T.g_NoName (by decide) (kt_NoTerm_NoName T)) (sa_cons (se_isP T.e_NoTerm hz hf (List.mem_cons_self) (by rfl) T.b_isinstance (pv 0) (by rfl) T.g_NoOpening (by decide) (kt_NoTerm_NoOpening T)) sa_nil))))))
  (ss_cons (ss_aug (i := 1) sc.nd rfl (by first | exact Or.inl rfl | exact Or.inr rfl) (se_lst (sa_cons (se_isP T.e_NoTerm hz hf (List.mem_cons_self) (by rfl) T.b_isinstance (pv 0) (by rfl) T.g_NoPlace (by decide) (kt_NoTerm_NoPlace T)) (sa_cons (se_isP T.e_NoTerm hz hf (List.mem_cons_self) (by rfl) T.b_isinstance (pv 0) (by rfl) T.g_NoRow (by decide) (kt_NoTerm_NoRow T)) (sa_cons (se_isP T.e_NoTerm hz hf (List.mem_cons_self) (by rfl) T.b_isinstance (pv 0) (by rfl) T.g_NoSize (by decide) (kt_NoTerm_NoSize T)) (sa_cons (se_isP T.e_NoTerm hz hf (List.mem_cons_self) (by rfl) T.b_isinstance (pv 0) (by rfl) T.g_NoStep (by decide) (kt_NoTerm_NoStep T)) sa_nil))))))
  (ss_cons (ss_aug (i := 1) sc.nd rfl (by first | exact Or.inl rfl | exact Or.inr rfl) (se_lst (sa_cons (se_isP T.e_NoTerm hz hf (List.mem_cons_self) (by rfl) T.b_isinstance (pv 0) (by rfl) T.g_NotAlike (by decide) (kt_NoTerm_NotAlike T)) (sa_cons (se_isP T.e_NoTerm hz hf (List.mem_cons_self) (by rfl) T.b_isinstance (pv 0) (by rfl) T.g_NoTerm (by decide) (kt_NoTerm_NoTerm T)) (sa_cons (se_isP T.e_NoTerm hz hf (List.mem_cons_self) (by rfl) T.b_isinstance (pv 0) (by rfl) T.g_NoText (by decide) (kt_NoTerm_NoText T)) (sa_cons (se_isP T.e_NoTerm hz hf (List.mem_cons_self) (by rfl) T.b_isinstance (pv 0) (by rfl) T.g_NoTree (by decide) (kt_NoTerm_NoTree T)) sa_nil))))))
  (ss_cons (ss_aug (i := 1) sc.nd rfl (by first | exact Or.inl rfl | exact Or.inr rfl) (se_lst (sa_cons (se_isP T.e_NoTerm hz hf (List.mem_cons_self) (by rfl) T.b_isinstance (pv 0) (by rfl) T.g_TooMuch (by decide) (kt_NoTerm_TooMuch T)) sa_nil)))
  (ss_one (ss_ret (se_and (se_cmp (op_eqD hr.units) ok_eq (se_count rfl (se_var rfl (pv 1)) (se_c pe_bl (fun _ _ => .bl _))) (se_c pe_int (fun _ _ => .int _)) (nomark _)) (se_and (se_isP T.e_NoTerm hz hf (List.mem_cons_self) (by rfl) T.b_isinstance (pv 0) (by rfl) T.g_Wrong (by decide) (kt_NoTerm_Wrong T)) (se_one (se_isPt T.e_NoTerm hz hf (List.mem_cons_self) (by rfl) T.b_isinstance (pv 0) (by rfl) T.b_ValueError (by decide +kernel) (kt_NoTerm_V T) (by decide) (by decide))))))))))))) (fun a dx xv => kx_law_alone_NoTerm a dx xv)
theorem okP_law_alone_NoPlace (T : Txt K mg) : FnP P w ⟨K, Ts⟩ mg base 1 T.a_law_alone T.d_law_alone ["_law_e"] T.A_NoPlace (.bl true) :=
  fnP_ok (K := ⟨K, Ts⟩) (k := 0) (nN := 1) (m := bx_law_alone_NoPlace) T.F_law_alone sc_law_alone rfl (fun cdv A outer s H a dx oe hr hz hf => have sc := sc_law_alone
    (ss_cons (ss_set (i := 1) sc.nd rfl (by first | exact Or.inl rfl | exact Or.inr rfl) (se_lst (sa_cons (se_isP T.e_NoPlace hz hf (List.mem_cons_self) (by rfl) T.b_isinstance (pv 0) (by rfl) T.g_Alike (by decide) (kt_NoPlace_Alike T)) (sa_cons (se_isP T.e_NoPlace hz hf (List.mem_cons_self) (by rfl) T.b_isinstance (pv 0) (by rfl) T.g_InOrder (by decide) (kt_NoPlace_InOrder T)) (sa_cons (se_isP T.e_NoPlace hz hf (List.mem_cons_self) (by rfl) T.b_isinstance (pv 0) (by rfl) T.g_NoForms (by decide) (kt_NoPlace_NoForms T)) (sa_cons (se_isP T.e_NoPlace hz hf (List.mem_cons_self) (by rfl) T.b_isinstance (pv 0) (by rfl) T.g_NoHole (by decide) (kt_NoPlace_NoHole T)) sa_nil))))))
  (ss_cons (ss_aug (i := 1) sc.nd rfl (by first | exact Or.inl rfl | exact Or.inr rfl) (se_lst (sa_cons (se_isP T.e_NoPlace hz hf (List.mem_cons_self) (by rfl) T.b_isinstance (pv 0) (by rfl) T.g_NoLast (by decide) (kt_NoPlace_NoLast T)) (sa_cons (se_isP T.e_NoPlace hz hf (List.mem_cons_self) (by rfl) T.b_isinstance (pv 0) (by rfl) T.g_NoLink (by decide) (kt_NoPlace_NoLink T)) (sa_cons (se_isP T.e_NoPlace hz hf (List.mem_cons_self) (by rfl) T.b_isinstance (pv 0) (by rfl) T.g_NoName (by decide) (kt_NoPlace_NoName T)) (sa_cons (se_isP T.e_NoPlace hz hf (List.mem_cons_self) (by rfl) T.b_isinstance (pv 0) (by rfl) T.g_NoOpening (by decide) (kt_NoPlace_NoOpening T)) sa_nil))))))
  (ss_cons (ss_aug (i := 1) sc.nd rfl (by first | exact Or.inl rfl | exact Or.inr rfl) (se_lst (sa_cons (se_isP T.e_NoPlace hz hf (List.mem_cons_self) (by rfl) T.b_isinstance (pv 0) (by rfl) T.g_NoPlace (by decide) (kt_NoPlace_NoPlace T)) (sa_cons (se_isP T.e_NoPlace hz hf (List.mem_cons_self) (by rfl) T.b_isinstance (pv 0) (by rfl) T.g_NoRow (by decide) (kt_NoPlace_NoRow T)) (sa_cons (se_isP T.e_NoPlace hz hf (List.mem_cons_self) (by rfl) T.b_isinstance (pv 0) (by rfl) T.g_NoSize (by decide) (kt_NoPlace_NoSize T)) (sa_cons (se_isP T.e_NoPlace hz hf (List.mem_cons_self) (by rfl) T.b_isinstance (pv 0) (by rfl) T.g_NoStep (by decide) (kt_NoPlace_NoStep T)) sa_nil))))))
  (ss_cons (ss_aug (i := 1) sc.nd rfl (by first | exact Or.inl rfl | exact Or.inr rfl) (se_lst (sa_cons (se_isP T.e_NoPlace hz hf (List.mem_cons_self) (by rfl) T.b_isinstance (pv 0) (by rfl) T.g_NotAlike (by decide) (kt_NoPlace_NotAlike T)) (sa_cons (se_isP T.e_NoPlace hz hf (List.mem_cons_self) (by rfl) T.b_isinstance (pv 0) (by rfl) T.g_NoTerm (by decide) (kt_NoPlace_NoTerm T)) (sa_cons (se_isP T.e_NoPlace hz hf (List.mem_cons_self) (by rfl) T.b_isinstance (pv 0) (by rfl) T.g_NoText (by decide) (kt_NoPlace_NoText T)) (sa_cons (se_isP T.e_NoPlace hz hf (List.mem_cons_self) (by rfl) T.b_isinstance (pv 0) (by rfl) T.g_NoTree (by decide) (kt_NoPlace_NoTree T)) sa_nil))))))
  (ss_cons (ss_aug (i := 1) sc.nd rfl (by first | exact Or.inl rfl | exact Or.inr rfl) (se_lst (sa_cons (se_isP T.e_NoPlace hz hf (List.mem_cons_self) (by rfl) T.b_isinstance (pv 0) (by rfl) T.g_TooMuch (by decide) (kt_NoPlace_TooMuch T)) sa_nil)))
  (ss_one (ss_ret (se_and (se_cmp (op_eqD hr.units) ok_eq (se_count rfl (se_var rfl (pv 1)) (se_c pe_bl (fun _ _ => .bl _))) (se_c pe_int (fun _ _ => .int _)) (nomark _)) (se_and (se_isP T.e_NoPlace hz hf (List.mem_cons_self) (by rfl) T.b_isinstance (pv 0) (by rfl) T.g_Wrong (by decide) (kt_NoPlace_Wrong T)) (se_one (se_isPt T.e_NoPlace hz hf (List.mem_cons_self) (by rfl) T.b_isinstance (pv 0) (by rfl) T.b_ValueError (by decide +kernel) (kt_NoPlace_V T) (by decide) (by decide))))))))))))) (fun a dx xv => kx_law_alone_NoPlace a dx xv)
theorem okP_law_alone_NoSize (T : Txt K mg) : FnP P w ⟨K, Ts⟩ mg base 1 T.a_law_alone T.d_law_alone ["_law_e"] T.A_NoSize (.bl true) :=
  fnP_ok (K := ⟨K, Ts⟩) (k := 0) (nN := 1) (m := bx_law_alone_NoSize) T.F_law_alone sc_law_alone rfl (fun cdv A outer s H a dx oe hr hz hf => have sc := sc_law_alone
    (ss_cons (ss_set (i := 1) sc.nd rfl (by first | exact Or.inl rfl | exact Or.inr rfl) (se_lst (sa_cons (se_isP T.e_NoSize hz hf (List.mem_cons_self) (by rfl) T.b_isinstance (pv 0) (by rfl) T.g_Alike (by decide) (kt_NoSize_Alike T)) (sa_cons (se_isP T.e_NoSize hz hf (List.mem_cons_self) (by rfl) T.b_isinstance (pv 0) (by rfl) T.g_InOrder (by decide) (kt_NoSize_InOrder T)) (sa_cons (se_isP T.e_NoSize hz hf (List.mem_cons_self) (by rfl) T.b_isinstance (pv 0) (by rfl) T.g_NoForms (by decide) (kt_NoSize_NoForms T)) (sa_cons (se_isP T.e_NoSize hz hf (List.mem_cons_self) (by rfl) T.b_isinstance (pv 0) (by rfl) T.g_NoHole (by decide) (kt_NoSize_NoHole T)) sa_nil))))))
  (ss_cons (ss_aug (i := 1) sc.nd rfl (by first | exact Or.inl rfl | exact Or.inr rfl) (se_lst (sa_cons (se_isP T.e_NoSize hz hf (List.mem_cons_self) (by rfl) T.b_isinstance (pv 0) (by rfl) T.g_NoLast (by decide) (kt_NoSize_NoLast T)) (sa_cons (se_isP T.e_NoSize hz hf (List.mem_cons_self) (by rfl) T.b_isinstance (pv 0) (by rfl) T.g_NoLink (by decide) (kt_NoSize_NoLink T)) (sa_cons (se_isP T.e_NoSize hz hf (List.mem_cons_self) (by rfl) T.b_isinstance (pv 0) (by rfl) T.g_NoName (by decide) (kt_NoSize_NoName T)) (sa_cons (se_isP T.e_NoSize hz hf (List.mem_cons_self) (by rfl) T.b_isinstance (pv 0) (by rfl) T.g_NoOpening (by decide) (kt_NoSize_NoOpening T)) sa_nil))))))
  (ss_cons (ss_aug (i := 1) sc.nd rfl (by first | exact Or.inl rfl | exact Or.inr rfl) (se_lst (sa_cons (se_isP T.e_NoSize hz hf (List.mem_cons_self) (by rfl) T.b_isinstance (pv 0) (by rfl) T.g_NoPlace (by decide) (kt_NoSize_NoPlace T)) (sa_cons (se_isP T.e_NoSize hz hf (List.mem_cons_self) (by rfl) T.b_isinstance (pv 0) (by rfl) T.g_NoRow (by decide) (kt_NoSize_NoRow T)) (sa_cons (se_isP T.e_NoSize hz hf (List.mem_cons_self) (by rfl) T.b_isinstance (pv 0) (by rfl) T.g_NoSize (by decide) (kt_NoSize_NoSize T)) (sa_cons (se_isP T.e_NoSize hz hf (List.mem_cons_self) (by rfl) T.b_isinstance (pv 0) (by rfl) T.g_NoStep (by decide) (kt_NoSize_NoStep T)) sa_nil))))))
  (ss_cons (ss_aug (i := 1) sc.nd rfl (by first | exact Or.inl rfl | exact Or.inr rfl) (se_lst (sa_cons (se_isP T.e_NoSize hz hf (List.mem_cons_self) (by rfl) T.b_isinstance (pv 0) (by rfl) T.g_NotAlike (by decide) (kt_NoSize_NotAlike T)) (sa_cons (se_isP T.e_NoSize hz hf (List.mem_cons_self) (by rfl) T.b_isinstance (pv 0) (by rfl) T.g_NoTerm (by decide) (kt_NoSize_NoTerm T)) (sa_cons (se_isP T.e_NoSize hz hf (List.mem_cons_self) (by rfl) T.b_isinstance (pv 0) (by rfl) T.g_NoText (by decide) (kt_NoSize_NoText T)) (sa_cons (se_isP T.e_NoSize hz hf (List.mem_cons_self) (by rfl) T.b_isinstance (pv 0) (by rfl) T.g_NoTree (by decide) (kt_NoSize_NoTree T)) sa_nil))))))
  (ss_cons (ss_aug (i := 1) sc.nd rfl (by first | exact Or.inl rfl | exact Or.inr rfl) (se_lst (sa_cons (se_isP T.e_NoSize hz hf (List.mem_cons_self) (by rfl) T.b_isinstance (pv 0) (by rfl) T.g_TooMuch (by decide) (kt_NoSize_TooMuch T)) sa_nil)))
  (ss_one (ss_ret (se_and (se_cmp (op_eqD hr.units) ok_eq (se_count rfl (se_var rfl (pv 1)) (se_c pe_bl (fun _ _ => .bl _))) (se_c pe_int (fun _ _ => .int _)) (nomark _)) (se_and (se_isP T.e_NoSize hz hf (List.mem_cons_self) (by rfl) T.b_isinstance (pv 0) (by rfl) T.g_Wrong (by decide) (kt_NoSize_Wrong T)) (se_one (se_isPt T.e_NoSize hz hf (List.mem_cons_self) (by rfl) T.b_isinstance (pv 0) (by rfl) T.b_ValueError (by decide +kernel) (kt_NoSize_V T) (by decide) (by decide))))))))))))) (fun a dx xv => kx_law_alone_NoSize a dx xv)
theorem okP_law_alone_NoOpening (T : Txt K mg) : FnP P w ⟨K, Ts⟩ mg base 1 T.a_law_alone T.d_law_alone ["_law_e"] T.A_NoOpening (.bl true) :=
  fnP_ok (K := ⟨K, Ts⟩) (k := 0) (nN := 1) (m := bx_law_alone_NoOpening) T.F_law_alone sc_law_alone rfl (fun cdv A outer s H a dx oe hr hz hf => have sc := sc_law_alone
    (ss_cons (ss_set (i := 1) sc.nd rfl (by first | exact Or.inl rfl | exact Or.inr rfl) (se_lst (sa_cons (se_isP T.e_NoOpening hz hf (List.mem_cons_self) (by rfl) T.b_isinstance (pv 0) (by rfl) T.g_Alike (by decide) (kt_NoOpening_Alike T)) (sa_cons (se_isP T.e_NoOpening hz hf (List.mem_cons_self) (by rfl) T.b_isinstance (pv 0) (by rfl) T.g_InOrder (by decide) (kt_NoOpening_InOrder T)) (sa_cons (se_isP T.e_NoOpening hz hf (List.mem_cons_self) (by rfl) T.b_isinstance (pv 0) (by rfl) T.g_NoForms (by decide) (kt_NoOpening_NoForms T)) (sa_cons (se_isP T.e_NoOpening hz hf (List.mem_cons_self) (by rfl) T.b_isinstance (pv 0) (by rfl) T.g_NoHole (by decide) (kt_NoOpening_NoHole T)) sa_nil))))))
  (ss_cons (ss_aug (i := 1) sc.nd rfl (by first | exact Or.inl rfl | exact Or.inr rfl) (se_lst (sa_cons (se_isP T.e_NoOpening hz hf (List.mem_cons_self) (by rfl) T.b_isinstance (pv 0) (by rfl) T.g_NoLast (by decide) (kt_NoOpening_NoLast T)) (sa_cons (se_isP T.e_NoOpening hz hf (List.mem_cons_self) (by rfl) T.b_isinstance (pv 0) (by rfl) T.g_NoLink (by decide) (kt_NoOpening_NoLink T)) (sa_cons (se_isP T.e_NoOpening hz hf (List.mem_cons_self) (by rfl) T.b_isinstance (pv 0) (by rfl) T.g_NoName (by decide) (kt_NoOpening_NoName T)) (sa_cons (se_isP T.e_NoOpening hz hf (List.mem_cons_self) (by rfl) T.b_isinstance (pv 0) (by rfl) T.g_NoOpening (by decide) (kt_NoOpening_NoOpening T)) sa_nil))))))
  (ss_cons (ss_aug (i := 1) sc.nd rfl (by first | exact Or.inl rfl | exact Or.inr rfl) (se_lst (sa_cons (se_isP T.e_NoOpening hz hf (List.mem_cons_self) (by rfl) T.b_isinstance (pv 0) (by rfl) T.g_NoPlace (by decide) (kt_NoOpening_NoPlace T)) (sa_cons (se_isP T.e_NoOpening hz hf (List.mem_cons_self) (by rfl) T.b_isinstance (pv 0) (by rfl) T.g_NoRow (by decide) (kt_NoOpening_NoRow T)) (sa_cons (se_isP T.e_NoOpening hz hf (List.mem_cons_self) (by rfl) T.b_isinstance (pv 0) (by rfl) T.g_NoSize (by decide) (kt_NoOpening_NoSize T)) (sa_cons (se_isP T.e_NoOpening hz hf (List.mem_cons_self) (by rfl) T.b_isinstance (pv 0) (by rfl) T.g_NoStep (by decide) (kt_NoOpening_NoStep T)) sa_nil))))))
  (ss_cons (ss_aug (i := 1) sc.nd rfl (by first | exact Or.inl rfl | exact Or.inr rfl) (se_lst (sa_cons (se_isP T.e_NoOpening hz hf (List.mem_cons_self) (by rfl) T.b_isinstance (pv 0) (by rfl) T.g_NotAlike (by decide) (kt_NoOpening_NotAlike T)) (sa_cons (se_isP T.e_NoOpening hz hf (List.mem_cons_self) (by rfl) T.b_isinstance (pv 0) (by rfl) T.g_NoTerm (by decide) (kt_NoOpening_NoTerm T)) (sa_cons (se_isP T.e_NoOpening hz hf (List.mem_cons_self) (by rfl) T.b_isinstance (pv 0) (by rfl) T.g_NoText (by decide) (kt_NoOpening_NoText T)) (sa_cons (se_isP T.e_NoOpening hz hf (List.mem_cons_self) (by rfl) T.b_isinstance (pv 0) (by rfl) T.g_NoTree (by decide) (kt_NoOpening_NoTree T)) sa_nil))))))
  (ss_cons (ss_aug (i := 1) sc.nd rfl (by first | exact Or.inl rfl | exact Or.inr rfl) (se_lst (sa_cons (se_isP T.e_NoOpening hz hf (List.mem_cons_self) (by rfl) T.b_isinstance (pv 0) (by rfl) T.g_TooMuch (by decide) (kt_NoOpening_TooMuch T)) sa_nil)))
  (ss_one (ss_ret (se_and (se_cmp (op_eqD hr.units) ok_eq (se_count rfl (se_var rfl (pv 1)) (se_c pe_bl (fun _ _ => .bl _))) (se_c pe_int (fun _ _ => .int _)) (nomark _)) (se_and (se_isP T.e_NoOpening hz hf (List.mem_cons_self) (by rfl) T.b_isinstance (pv 0) (by rfl) T.g_Wrong (by decide) (kt_NoOpening_Wrong T)) (se_one (se_isPt T.e_NoOpening hz hf (List.mem_cons_self) (by rfl) T.b_isinstance (pv 0) (by rfl) T.b_ValueError (by decide +kernel) (kt_NoOpening_V T) (by decide) (by decide))))))))))))) (fun a dx xv => kx_law_alone_NoOpening a dx xv)
theorem exm_NoTerm_NoTerm (T : Txt K mg) : PySem.W.exmOne K (.ref T.A_NoTerm) (.ref T.A_NoTerm) = some true := PySem.W.exm_ref T.s_NoTerm T.h_NoTerm T.t_NoTerm T.q_NoTerm_NoTerm
theorem exm_NoTerm_NoPlace (T : Txt K mg) : PySem.W.exmOne K (.ref T.A_NoTerm) (.ref T.A_NoPlace) = some false := PySem.W.exm_ref T.s_NoPlace T.h_NoPlace T.t_NoPlace T.q_NoTerm_NoPlace
theorem exm_NoTerm_NoOpening (T : Txt K mg) : PySem.W.exmOne K (.ref T.A_NoTerm) (.ref T.A_NoOpening) = some false := PySem.W.exm_ref T.s_NoOpening T.h_NoOpening T.t_NoOpening T.q_NoTerm_NoOpening
theorem exm_NoTerm_NoSize (T : Txt K mg) : PySem.W.exmOne K (.ref T.A_NoTerm) (.ref T.A_NoSize) = some false := PySem.W.exm_ref T.s_NoSize T.h_NoSize T.t_NoSize T.q_NoTerm_NoSize
theorem exm_NoPlace_NoTerm (T : Txt K mg) : PySem.W.exmOne K (.ref T.A_NoPlace) (.ref T.A_NoTerm) = some false := PySem.W.exm_ref T.s_NoTerm T.h_NoTerm T.t_NoTerm T.q_NoPlace_NoTerm
theorem exm_NoPlace_NoPlace (T : Txt K mg) : PySem.W.exmOne K (.ref T.A_NoPlace) (.ref T.A_NoPlace) = some true := PySem.W.exm_ref T.s_NoPlace T.h_NoPlace T.t_NoPlace T.q_NoPlace_NoPlace
theorem exm_NoPlace_NoOpening (T : Txt K mg) : PySem.W.exmOne K (.ref T.A_NoPlace) (.ref T.A_NoOpening) = some false := PySem.W.exm_ref T.s_NoOpening T.h_NoOpening T.t_NoOpening T.q_NoPlace_NoOpening
theorem exm_NoPlace_NoSize (T : Txt K mg) : PySem.W.exmOne K (.ref T.A_NoPlace) (.ref T.A_NoSize) = some false := PySem.W.exm_ref T.s_NoSize T.h_NoSize T.t_NoSize T.q_NoPlace_NoSize
theorem exm_NoSize_NoTerm (T : Txt K mg) : PySem.W.exmOne K (.ref T.A_NoSize) (.ref T.A_NoTerm) = some false := PySem.W.exm_ref T.s_NoTerm T.h_NoTerm T.t_NoTerm T.q_NoSize_NoTerm
theorem exm_NoSize_NoPlace (T : Txt K mg) : PySem.W.exmOne K (.ref T.A_NoSize) (.ref T.A_NoPlace) = some false := PySem.W.exm_ref T.s_NoPlace T.h_NoPlace T.t_NoPlace T.q_NoSize_NoPlace
theorem exm_NoSize_NoOpening (T : Txt K mg) : PySem.W.exmOne K (.ref T.A_NoSize) (.ref T.A_NoOpening) = some false := PySem.W.exm_ref T.s_NoOpening T.h_NoOpening T.t_NoOpening T.q_NoSize_NoOpening
theorem exm_NoSize_NoSize (T : Txt K mg) : PySem.W.exmOne K (.ref T.A_NoSize) (.ref T.A_NoSize) = some true := PySem.W.exm_ref T.s_NoSize T.h_NoSize T.t_NoSize T.q_NoSize_NoSize
theorem exm_NoOpening_NoTerm (T : Txt K mg) : PySem.W.exmOne K (.ref T.A_NoOpening) (.ref T.A_NoTerm) = some false := PySem.W.exm_ref T.s_NoTerm T.h_NoTerm T.t_NoTerm T.q_NoOpening_NoTerm
theorem exm_NoOpening_NoPlace (T : Txt K mg) : PySem.W.exmOne K (.ref T.A_NoOpening) (.ref T.A_NoPlace) = some false := PySem.W.exm_ref T.s_NoPlace T.h_NoPlace T.t_NoPlace T.q_NoOpening_NoPlace
theorem exm_NoOpening_NoOpening (T : Txt K mg) : PySem.W.exmOne K (.ref T.A_NoOpening) (.ref T.A_NoOpening) = some true := PySem.W.exm_ref T.s_NoOpening T.h_NoOpening T.t_NoOpening T.q_NoOpening_NoOpening
theorem exm_NoOpening_NoSize (T : Txt K mg) : PySem.W.exmOne K (.ref T.A_NoOpening) (.ref T.A_NoSize) = some false := PySem.W.exm_ref T.s_NoSize T.h_NoSize T.t_NoSize T.q_NoOpening_NoSize
theorem cl_law_how_NoTerm (T : Txt K mg) {X : Cx} (hP : X.prog = P) (hw : X.w = w) (hK : X.K = K) (hm : X.mg = mg) (hb : X.base = base) (hr : Room 3 X.A) (cdg : Value) (s : Shared) (H : Hp) (n : Str) (b : Option D) (d : D) (C : Addr) (h1 : tblHow n b = some d) (h2 : X.mg n = some (.ref C)) (hx : PySem.W.exmOne X.K (.ref C) (.ref T.A_NoTerm) = some true) (ae : Addr) (dx : Option Addr) (xv : V) (oe : Obj) (pn : List (Addr × Obj)) (hd : Held b dx xv) (hz : Zc (.ref C) dx oe) (hf : ∃ vs, oe.data = .fields vs) :
    ∃ m, PSs ((howCx X N_law_how "_law_how" (defScope s_law_how) T.a_law_how cdg s H).suite ae ((ae, oe) :: pn)) (clauseBody s_law_how 0) (sP ⟨⟨X.K, Ts⟩, X.mg, C8.E0⟩ m) ∧ m [none, none, some (false, .raw ae dx xv)] = .nx [none, some (false, d), some (false, .raw ae dx xv)] := by
  have sc := sc_law_how
  subst hP hw hK hm hb
  rcases howS_inv h1 with ⟨k, rfl, m, rfl⟩ | ⟨k, e, rfl, ha, m, rfl⟩
  · simp only [List.mem_cons, List.mem_nil_iff, Prod.mk.injEq, or_false] at m
    rcases m with ⟨rfl, rfl⟩ | ⟨rfl, rfl⟩ | ⟨rfl, rfl⟩ | ⟨rfl, rfl⟩
    · have eC : C = T.A_NoTerm := by rw [T.g_NoTerm] at h2; cases h2; rfl
      subst eC
      exact ⟨_, (ss_one (ss_set (i := 1) sc.nd rfl (by first | exact Or.inl rfl | exact Or.inr rfl) (se_ix ix_seq ok_ix (se_lst (sa_cons (se_c pe_str (fun _ _ => .str _)) (sa_cons (se_c pe_str (fun _ _ => .str _)) sa_nil))) (se_callTy ok_int call_int1 (by rfl) T.b_int bt_int (sa_cons (se_kind (okP_law_alone_NoTerm T) rfl rfl (roomH_mark (k := 0) (hr.mono (by decide))) hz hf List.mem_cons_self (by rfl) T.g_law_alone T.F_law_alone.kp T.n_law_alone (pv 2)) sa_nil)) (fun _ _ => rfl)))), hs_law_how_NoTerm ae dx xv⟩
    · have eC : C = T.A_NoPlace := by rw [T.g_NoPlace] at h2; cases h2; rfl
      subst eC
      exact absurd (hx.symm.trans (exm_NoPlace_NoTerm T)) (by simp)
    · have eC : C = T.A_NoSize := by rw [T.g_NoSize] at h2; cases h2; rfl
      subst eC
      exact absurd (hx.symm.trans (exm_NoSize_NoTerm T)) (by simp)
    · have eC : C = T.A_NoOpening := by rw [T.g_NoOpening] at h2; cases h2; rfl
      subst eC
      exact absurd (hx.symm.trans (exm_NoOpening_NoTerm T)) (by simp)
  · exact absurd m (by simp)

theorem cl_law_how_NoPlace (T : Txt K mg) {X : Cx} (hP : X.prog = P) (hw : X.w = w) (hK : X.K = K) (hm : X.mg = mg) (hb : X.base = base) (hr : Room 3 X.A) (cdg : Value) (s : Shared) (H : Hp) (n : Str) (b : Option D) (d : D) (C : Addr) (h1 : tblHow n b = some d) (h2 : X.mg n = some (.ref C)) (hx : PySem.W.exmOne X.K (.ref C) (.ref T.A_NoPlace) = some true) (ae : Addr) (dx : Option Addr) (xv : V) (oe : Obj) (pn : List (Addr × Obj)) (hd : Held b dx xv) (hz : Zc (.ref C) dx oe) (hf : ∃ vs, oe.data = .fields vs) :
    ∃ m, PSs ((howCx X N_law_how "_law_how" (defScope s_law_how) T.a_law_how cdg s H).suite ae ((ae, oe) :: pn)) (clauseBody s_law_how 1) (sP ⟨⟨X.K, Ts⟩, X.mg, C8.E0⟩ m) ∧ m [none, none, some (false, .raw ae dx xv)] = .nx [none, some (false, d), some (false, .raw ae dx xv)] := by
  have sc := sc_law_how
  subst hP hw hK hm hb
  rcases howS_inv h1 with ⟨k, rfl, m, rfl⟩ | ⟨k, e, rfl, ha, m, rfl⟩
  · simp only [List.mem_cons, List.mem_nil_iff, Prod.mk.injEq, or_false] at m
    rcases m with ⟨rfl, rfl⟩ | ⟨rfl, rfl⟩ | ⟨rfl, rfl⟩ | ⟨rfl, rfl⟩
    · have eC : C = T.A_NoTerm := by rw [T.g_NoTerm] at h2; cases h2; rfl
      subst eC
      exact absurd (hx.symm.trans (exm_NoTerm_NoPlace T)) (by simp)
    · have eC : C = T.A_NoPlace := by rw [T.g_NoPlace] at h2; cases h2; rfl
      subst eC
      exact ⟨_, (ss_one (ss_set (i := 1) sc.nd rfl (by first | exact Or.inl rfl | exact Or.inr rfl) (se_ix ix_seq ok_ix (se_lst (sa_cons (se_c pe_str (fun _ _ => .str _)) (sa_cons (se_c pe_str (fun _ _ => .str _)) sa_nil))) (se_callTy ok_int call_int1 (by rfl) T.b_int bt_int (sa_cons (se_kind (okP_law_alone_NoPlace T) rfl rfl (roomH_mark (k := 0) (hr.mono (by decide))) hz hf List.mem_cons_self (by rfl) T.g_law_alone T.F_law_alone.kp T.n_law_alone (pv 2)) sa_nil)) (fun _ _ => rfl)))), hs_law_how_NoPlace ae dx xv⟩
    · have eC : C = T.A_NoSize := by rw [T.g_NoSize] at h2; cases h2; rfl
      subst eC
      exact absurd (hx.symm.trans (exm_NoSize_NoPlace T)) (by simp)
    · have eC : C = T.A_NoOpening := by rw [T.g_NoOpening] at h2; cases h2; rfl
      subst eC
      exact absurd (hx.symm.trans (exm_NoOpening_NoPlace T)) (by simp)
  · exact absurd m (by simp)

theorem cl_law_how_NoOpening (T : Txt K mg) {X : Cx} (hP : X.prog = P) (hw : X.w = w) (hK : X.K = K) (hm : X.mg = mg) (hb : X.base = base) (hr : Room 3 X.A) (cdg : Value) (s : Shared) (H : Hp) (n : Str) (b : Option D) (d : D) (C : Addr) (h1 : tblHow n b = some d) (h2 : X.mg n = some (.ref C)) (hx : PySem.W.exmOne X.K (.ref C) (.ref T.A_NoOpening) = some true) (ae : Addr) (dx : Option Addr) (xv : V) (oe : Obj) (pn : List (Addr × Obj)) (hd : Held b dx xv) (hz : Zc (.ref C) dx oe) (hf : ∃ vs, oe.data = .fields vs) :
    ∃ m, PSs ((howCx X N_law_how "_law_how" (defScope s_law_how) T.a_law_how cdg s H).suite ae ((ae, oe) :: pn)) (clauseBody s_law_how 2) (sP ⟨⟨X.K, Ts⟩, X.mg, C8.E0⟩ m) ∧ m [none, none, some (false, .raw ae dx xv)] = .nx [none, some (false, d), some (false, .raw ae dx xv)] := by
  have sc := sc_law_how
  subst hP hw hK hm hb
  rcases howS_inv h1 with ⟨k, rfl, m, rfl⟩ | ⟨k, e, rfl, ha, m, rfl⟩
  · simp only [List.mem_cons, List.mem_nil_iff, Prod.mk.injEq, or_false] at m
    rcases m with ⟨rfl, rfl⟩ | ⟨rfl, rfl⟩ | ⟨rfl, rfl⟩ | ⟨rfl, rfl⟩
    · have eC : C = T.A_NoTerm := by rw [T.g_NoTerm] at h2; cases h2; rfl
      subst eC
      exact absurd (hx.symm.trans (exm_NoTerm_NoOpening T)) (by simp)
    · have eC : C = T.A_NoPlace := by rw [T.g_NoPlace] at h2; cases h2; rfl
      subst eC
      exact absurd (hx.symm.trans (exm_NoPlace_NoOpening T)) (by simp)
    · have eC : C = T.A_NoSize := by rw [T.g_NoSize] at h2; cases h2; rfl
      subst eC
      exact absurd (hx.symm.trans (exm_NoSize_NoOpening T)) (by simp)
    · have eC : C = T.A_NoOpening := by rw [T.g_NoOpening] at h2; cases h2; rfl
      subst eC
      exact ⟨_, (ss_one (ss_set (i := 1) sc.nd rfl (by first | exact Or.inl rfl | exact Or.inr rfl) (se_ix ix_seq ok_ix (se_lst (sa_cons (se_c pe_str (fun _ _ => .str _)) (sa_cons (se_c pe_str (fun _ _ => .str _)) sa_nil))) (se_callTy ok_int call_int1 (by rfl) T.b_int bt_int (sa_cons (se_kind (okP_law_alone_NoOpening T) rfl rfl (roomH_mark (k := 0) (hr.mono (by decide))) hz hf List.mem_cons_self (by rfl) T.g_law_alone T.F_law_alone.kp T.n_law_alone (pv 2)) sa_nil)) (fun _ _ => rfl)))), hs_law_how_NoOpening ae dx xv⟩
  · exact absurd m (by simp)

theorem cl_law_how_NoSize (T : Txt K mg) {X : Cx} (hP : X.prog = P) (hw : X.w = w) (hK : X.K = K) (hm : X.mg = mg) (hb : X.base = base) (hr : Room 3 X.A) (cdg : Value) (s : Shared) (H : Hp) (n : Str) (b : Option D) (d : D) (C : Addr) (h1 : tblHow n b = some d) (h2 : X.mg n = some (.ref C)) (hx : PySem.W.exmOne X.K (.ref C) (.ref T.A_NoSize) = some true) (ae : Addr) (dx : Option Addr) (xv : V) (oe : Obj) (pn : List (Addr × Obj)) (hd : Held b dx xv) (hz : Zc (.ref C) dx oe) (hf : ∃ vs, oe.data = .fields vs) :
    ∃ m, PSs ((howCx X N_law_how "_law_how" (defScope s_law_how) T.a_law_how cdg s H).suite ae ((ae, oe) :: pn)) (clauseBody s_law_how 3) (sP ⟨⟨X.K, Ts⟩, X.mg, C8.E0⟩ m) ∧ m [none, none, some (false, .raw ae dx xv)] = .nx [none, some (false, d), some (false, .raw ae dx xv)] := by
  have sc := sc_law_how
  subst hP hw hK hm hb
  rcases howS_inv h1 with ⟨k, rfl, m, rfl⟩ | ⟨k, e, rfl, ha, m, rfl⟩
  · simp only [List.mem_cons, List.mem_nil_iff, Prod.mk.injEq, or_false] at m
    rcases m with ⟨rfl, rfl⟩ | ⟨rfl, rfl⟩ | ⟨rfl, rfl⟩ | ⟨rfl, rfl⟩
    · have eC : C = T.A_NoTerm := by rw [T.g_NoTerm] at h2; cases h2; rfl
      subst eC
      exact absurd (hx.symm.trans (exm_NoTerm_NoSize T)) (by simp)
    · have eC : C = T.A_NoPlace := by rw [T.g_NoPlace] at h2; cases h2; rfl
      subst eC
      exact absurd (hx.symm.trans (exm_NoPlace_NoSize T)) (by simp)
    · have eC : C = T.A_NoSize := by rw [T.g_NoSize] at h2; cases h2; rfl
      subst eC
      exact ⟨_, (ss_one (ss_set (i := 1) sc.nd rfl (by first | exact Or.inl rfl | exact Or.inr rfl) (se_ix ix_seq ok_ix (se_lst (sa_cons (se_c pe_str (fun _ _ => .str _)) (sa_cons (se_c pe_str (fun _ _ => .str _)) sa_nil))) (se_callTy ok_int call_int1 (by rfl) T.b_int bt_int (sa_cons (se_kind (okP_law_alone_NoSize T) rfl rfl (roomH_mark (k := 0) (hr.mono (by decide))) hz hf List.mem_cons_self (by rfl) T.g_law_alone T.F_law_alone.kp T.n_law_alone (pv 2)) sa_nil)) (fun _ _ => rfl)))), hs_law_how_NoSize ae dx xv⟩
    · have eC : C = T.A_NoOpening := by rw [T.g_NoOpening] at h2; cases h2; rfl
      subst eC
      exact absurd (hx.symm.trans (exm_NoOpening_NoSize T)) (by simp)
  · exact absurd m (by simp)

theorem gv_law_how (T : Txt K mg) {X : Cx} (hP : X.prog = P) (hw : X.w = w) (hK : X.K = K) (hm : X.mg = mg) (hb : X.base = base) (hr : Room 3 X.A) (cdg : Value) (q : Str) : LamX.GivesTo X N_law_how "_law_how" (defScope s_law_how) T.a_law_how cdg (defBody s_law_how) "_law_deed" q (TTH ⟨X.K, Ts⟩ X.mg tblHow) := by
  subst hP hw hK hm hb
  refine sets_gives (l := [T.A_NoTerm, T.A_NoPlace, T.A_NoOpening, T.A_NoSize]) (by decide) rfl rfl (by decide) (by decide) howS_at (fun s H => .cons (by rfl) T.g_NoTerm (by decide) (cl_law_how_NoTerm T rfl rfl rfl rfl rfl hr cdg s H) (.cons (by rfl) T.g_NoPlace (by decide) (cl_law_how_NoPlace T rfl rfl rfl rfl rfl hr cdg s H) (.cons (by rfl) T.g_NoOpening (by decide) (cl_law_how_NoOpening T rfl rfl rfl rfl rfl hr cdg s H) (.cons (by rfl) T.g_NoSize (by decide) (cl_law_how_NoSize T rfl rfl rfl rfl rfl hr cdg s H) (.nil))))) (fun n b d C h1 h2 => ?_) (fun _ => rfl)
  rcases howS_inv h1 with ⟨k, rfl, m, rfl⟩ | ⟨k, e, rfl, ha, m, rfl⟩
  · simp only [List.mem_cons, List.mem_nil_iff, Prod.mk.injEq, or_false] at m
    rcases m with ⟨rfl, rfl⟩ | ⟨rfl, rfl⟩ | ⟨rfl, rfl⟩ | ⟨rfl, rfl⟩
    · have eC : C = T.A_NoTerm := by rw [T.g_NoTerm] at h2; cases h2; rfl
      subst eC
      exact .inl (exm_NoTerm_NoTerm T)
    · have eC : C = T.A_NoPlace := by rw [T.g_NoPlace] at h2; cases h2; rfl
      subst eC
      exact .inr ⟨exm_NoPlace_NoTerm T, .inl (exm_NoPlace_NoPlace T)⟩
    · have eC : C = T.A_NoSize := by rw [T.g_NoSize] at h2; cases h2; rfl
      subst eC
      exact .inr ⟨exm_NoSize_NoTerm T, .inr ⟨exm_NoSize_NoPlace T, .inr ⟨exm_NoSize_NoOpening T, .inl (exm_NoSize_NoSize T)⟩⟩⟩
    · have eC : C = T.A_NoOpening := by rw [T.g_NoOpening] at h2; cases h2; rfl
      subst eC
      exact .inr ⟨exm_NoOpening_NoTerm T, .inr ⟨exm_NoOpening_NoPlace T, .inl (exm_NoOpening_NoOpening T)⟩⟩
  · exact absurd m (by simp)

theorem ok_law_cell_at (T : Txt K mg) (B : Tb T Ts base) : FnOk P w K mg base (L2.CX P w) 1 T.a_law_cell_at T.d_law_cell_at ["_law_script", "_law_k"] (spP ⟨K, Ts⟩ mg 2 m_law_cell_at) := by
  have sc := sc_law_cell_at
  refine fn_ok (K := ⟨K, Ts⟩) (m := b_law_cell_at) T.F_law_cell_at sc rfl rfl rfl fun cdv A outer s H E hr px tk po => ?_
  exact (ss_cons (ss_if (st_cmp op_lt ok_lt (se_var rfl (pv 1)) (se_callB ok_len call_lenU (by rfl) T.b_len bt_len (sa_cons (se_var rfl (pv 0)) sa_nil)) (nomark _)) (ss_one (ss_ret (se_ix ix_seq ok_ix (se_var rfl (pv 0)) (se_var rfl (pv 1)) (fun _ _ => rfl)))) ss_nil)
  (ss_one (ss_ret (se_op op_addU ok_add (se_op op_addU ok_add (se_op op_mod ok_mod (se_callB ok_sum (cr_sum rfl) (by rfl) T.b_sum bt_sum (sa_cons (se_var rfl (pv 0)) sa_nil)) (se_c pe_int (fun _ _ => .int _))) (se_op op_mulU ok_mul (se_c pe_int (fun _ _ => .int _)) (se_var rfl (pv 1)))) (se_c pe_int (fun _ _ => .int _))))))
theorem ok_law_mixed (T : Txt K mg) (B : Tb T Ts base) : FnOk P w K mg base (L2.CX P w) 1 T.a_law_mixed T.d_law_mixed ["_law_cell", "_law_k"] (spP ⟨K, Ts⟩ mg 2 m_law_mixed) := by
  have sc := sc_law_mixed
  refine fn_ok (K := ⟨K, Ts⟩) (m := b_law_mixed) T.F_law_mixed sc rfl rfl rfl fun cdv A outer s H E hr px tk po => ?_
  exact (ss_cons (ss_set (i := 2) sc.nd rfl (by first | exact Or.inl rfl | exact Or.inr rfl) (se_op op_addU ok_add (se_op op_mulU ok_mul (se_op op_addU ok_add (se_op op_mod ok_mod (se_var rfl (pv 0)) (se_c pe_int (fun _ _ => .int _))) (se_c pe_int (fun _ _ => .int _))) (se_op op_addU ok_add (se_op op_addU ok_add (se_op op_mulU ok_mul (se_var rfl (pv 1)) (se_var rfl (pv 1))) (se_op op_mulU ok_mul (se_c pe_int (fun _ _ => .int _)) (se_var rfl (pv 1)))) (se_c pe_int (fun _ _ => .int _)))) (se_op op_mulU ok_mul (se_var rfl (pv 1)) (se_c pe_int (fun _ _ => .int _)))))
  (ss_one (ss_ret (se_op op_fdivW ok_fdiv (se_op op_mod ok_mod (se_op op_pow ok_pow (se_var rfl (pv 2)) (se_c pe_int (fun _ _ => .int _))) (se_c pe_int (fun _ _ => .int _))) (se_c pe_int (fun _ _ => .int _))))))
theorem ok_law_numbers (T : Txt K mg) (B : Tb T Ts base) : FnOk P w K mg base (L2.CX P w) 2 T.a_law_numbers T.d_law_numbers ["_law_cell", "_law_sizes"] (spP ⟨K, Ts⟩ mg 2 m_law_numbers) := by
  have G_law_mixed := ok_law_mixed (P := P) (w := w) (base := base) (Ts := Ts) T B
  have sc := sc_law_numbers
  refine fn_ok (K := ⟨K, Ts⟩) (m := b_law_numbers) T.F_law_numbers sc rfl rfl rfl fun cdv A outer s H E hr px tk po => ?_
  exact (ss_cons (ss_set (i := 2) sc.nd rfl (by first | exact Or.inl rfl | exact Or.inr rfl) (se_lst sa_nil))
  (ss_cons (ss_set (i := 3) sc.nd rfl (by first | exact Or.inl rfl | exact Or.inr rfl) (se_c pe_int (fun _ _ => .int _)))
  (ss_cons (ss_if (st_cmp op_ge ok_ge (se_var rfl (pv 0)) (se_op op_pow ok_pow (se_c pe_int (fun _ _ => .int _)) (se_c pe_int (fun _ _ => .int _))) (nomark _)) (ss_one (ss_set (i := 3) sc.nd rfl (by first | exact Or.inl rfl | exact Or.inr rfl) (se_op op_sub ok_sub (se_var rfl (pv 0)) (se_op op_pow ok_pow (se_c pe_int (fun _ _ => .int _)) (se_c pe_int (fun _ _ => .int _)))))) ss_nil)
  (ss_cons (ss_for po rfl (si_enum rfl (by rfl) T.b_enumerate (se_var rfl (pv 1))) (sg_tup rfl rfl (sgs_cons (sg_name sc.nd rfl (by first | exact Or.inl rfl | exact Or.inr rfl)) (sgs_cons (sg_name sc.nd rfl (by first | exact Or.inl rfl | exact Or.inr rfl)) sgs_nil))) (ss_cons (ss_set (i := 6) sc.nd rfl (by first | exact Or.inl rfl | exact Or.inr rfl) (se_op op_mod ok_mod (se_op op_pow ok_pow (se_call rfl rfl px G_law_mixed (hr.mono (by decide)) (by rfl) T.g_law_mixed T.F_law_mixed.kp T.n_law_mixed (fun _ h => mFn_len h) (sa_cons (se_var rfl (pv 0)) (sa_cons (se_var rfl (pv 4)) sa_nil))) (se_c pe_int (fun _ _ => .int _))) (se_var rfl (pv 5))))
  (ss_cons (ss_if (st_cmp op_lt ok_lt (se_var rfl (pv 5)) (se_op op_pow ok_pow (se_c pe_int (fun _ _ => .int _)) (se_c pe_int (fun _ _ => .int _))) (nomark _)) (ss_one (ss_set (i := 6) sc.nd rfl (by first | exact Or.inl rfl | exact Or.inr rfl) (se_op op_mod ok_mod (se_call rfl rfl px G_law_mixed (hr.mono (by decide)) (by rfl) T.g_law_mixed T.F_law_mixed.kp T.n_law_mixed (fun _ h => mFn_len h) (sa_cons (se_var rfl (pv 0)) (sa_cons (se_var rfl (pv 4)) sa_nil))) (se_var rfl (pv 5))))) ss_nil)
  (ss_cons (ss_if (st_cmp op_gt ok_gt (se_var rfl (pv 3)) (se_c pe_int (fun _ _ => .int _)) (nomark _)) (ss_cons (ss_set (i := 6) sc.nd rfl (by first | exact Or.inl rfl | exact Or.inr rfl) (se_op op_mod ok_mod (se_var rfl (pv 3)) (se_var rfl (pv 5))))
  (ss_one (ss_set (i := 3) sc.nd rfl (by first | exact Or.inl rfl | exact Or.inr rfl) (se_op op_fdivW ok_fdiv (se_var rfl (pv 3)) (se_var rfl (pv 5)))))) ss_nil)
  (ss_one (ss_app (i := 2) (R := [6]) rfl (pe_bm PySem.F.plainAttrs_list PySem.F.slot_list_append PySem.F.type_list_append mt_append (pv 2) (pa_cons (se_var rfl (pv 6)) pa_nil))))))))
  (ss_one (ss_retV (pv 2)))))))
theorem ok_law_ends (T : Txt K mg) (B : Tb T Ts base) : FnOk P w K mg base (L2.CX P w) 1 T.a_law_ends T.d_law_ends ["_law_term"] (spP ⟨K, Ts⟩ mg 1 m_law_ends) := by
  have sc := sc_law_ends
  refine fn_ok (K := ⟨K, Ts⟩) (m := b_law_ends) T.F_law_ends sc rfl rfl rfl fun cdv A outer s H E hr px tk po => ?_
  exact (ss_cons (ss_set (i := 1) sc.nd rfl (by first | exact Or.inl rfl | exact Or.inr rfl) (se_op op_mulU ok_mul (se_lst (sa_cons (se_c pe_int (fun _ _ => .int _)) sa_nil)) (se_callB ok_len call_lenU (by rfl) T.b_len bt_len (sa_cons (se_var rfl (pv 0)) sa_nil))))
  (ss_cons (ss_for po rfl (si_rangeD (by rfl) T.b_range (se_op op_sub ok_sub (se_callB ok_len call_lenU (by rfl) T.b_len bt_len (sa_cons (se_var rfl (pv 0)) sa_nil)) (se_c pe_int (fun _ _ => .int _))) (se_un un_neg ok_neg (se_c pe_int (fun _ _ => .int _)))) (sg_name sc.nd rfl (by first | exact Or.inl rfl | exact Or.inr rfl)) (ss_cons (ss_storeU hr.units (pv 1) (se_var rfl (pv 2)) (se_op op_addU ok_add (se_var rfl (pv 2)) (se_c pe_int (fun _ _ => .int _))))
  (ss_cons (ss_if (st_cmp (op_eqD hr.units) ok_eq (se_ix ix_seq ok_ix (se_var rfl (pv 0)) (se_var rfl (pv 2)) (fun _ _ => rfl)) (se_un un_neg ok_neg (se_c pe_int (fun _ _ => .int _))) (nomark _)) (ss_one (ss_storeU hr.units (pv 1) (se_var rfl (pv 2)) (se_ix ix_seq ok_ix (se_var rfl (pv 1)) (se_op op_addU ok_add (se_var rfl (pv 2)) (se_c pe_int (fun _ _ => .int _))) (fun _ _ => rfl)))) ss_nil)
  (ss_one (ss_if (st_cmp (op_eqD hr.units) ok_eq (se_ix ix_seq ok_ix (se_var rfl (pv 0)) (se_var rfl (pv 2)) (fun _ _ => rfl)) (se_un un_neg ok_neg (se_c pe_int (fun _ _ => .int _))) (nomark _)) (ss_one (ss_storeU hr.units (pv 1) (se_var rfl (pv 2)) (se_ix ix_seq ok_ix (se_var rfl (pv 1)) (se_ix ix_seq ok_ix (se_var rfl (pv 1)) (se_op op_addU ok_add (se_var rfl (pv 2)) (se_c pe_int (fun _ _ => .int _))) (fun _ _ => rfl)) (fun _ _ => rfl)))) ss_nil)))))
  (ss_one (ss_retV (pv 1)))))
theorem ok_law_about (T : Txt K mg) (B : Tb T Ts base) : FnOk P w K mg base (L2.CX P w) 2 T.a_law_about T.d_law_about ["_law_term"] (spP ⟨K, Ts⟩ mg 1 m_law_about) := by
  have G_law_ends := ok_law_ends (P := P) (w := w) (base := base) (Ts := Ts) T B
  have sc := sc_law_about
  refine fn_ok (K := ⟨K, Ts⟩) (m := b_law_about) T.F_law_about sc rfl rfl rfl fun cdv A outer s H E hr px tk po => ?_
  exact (ss_cons (ss_set (i := 1) sc.nd rfl (by first | exact Or.inl rfl | exact Or.inr rfl) (se_call rfl rfl px G_law_ends (hr.mono (by decide)) (by rfl) T.g_law_ends T.F_law_ends.kp T.n_law_ends (fun _ h => mFn_len h) (sa_cons (se_var rfl (pv 0)) sa_nil)))
  (ss_cons (ss_set (i := 2) sc.nd rfl (by first | exact Or.inl rfl | exact Or.inr rfl) (se_op op_mulU ok_mul (se_lst (sa_cons (se_c pe_int (fun _ _ => .int _)) sa_nil)) (se_callB ok_len call_lenU (by rfl) T.b_len bt_len (sa_cons (se_var rfl (pv 0)) sa_nil))))
  (ss_cons (ss_for po rfl (si_enum rfl (by rfl) T.b_enumerate (se_var rfl (pv 0))) (sg_tup rfl rfl (sgs_cons (sg_name sc.nd rfl (by first | exact Or.inl rfl | exact Or.inr rfl)) (sgs_cons (sg_name sc.nd rfl (by first | exact Or.inl rfl | exact Or.inr rfl)) sgs_nil))) (ss_one (ss_if (st_cmp (op_eqD hr.units) ok_eq (se_var rfl (pv 4)) (se_un un_neg ok_neg (se_c pe_int (fun _ _ => .int _))) (nomark _)) (ss_one (ss_for po rfl (si_range2 (by rfl) T.b_range (se_op op_addU ok_add (se_var rfl (pv 3)) (se_c pe_int (fun _ _ => .int _))) (se_ix ix_seq ok_ix (se_var rfl (pv 1)) (se_var rfl (pv 3)) (fun _ _ => rfl))) (sg_name sc.nd rfl (by first | exact Or.inl rfl | exact Or.inr rfl)) (ss_one (ss_augS (i := 2) ip_add rfl (pv 2) (se_var rfl (pv 5)) (se_c pe_int (fun _ _ => .int _)))))) ss_nil)))
  (ss_one (ss_retV (pv 2))))))
theorem ok_law_moved (T : Txt K mg) (B : Tb T Ts base) : FnOk P w K mg base (L2.CX P w) 3 T.a_law_moved T.d_law_moved ["_law_term", "_law_many"] (spP ⟨K, Ts⟩ mg 2 m_law_moved) := by
  have G_law_about := ok_law_about (P := P) (w := w) (base := base) (Ts := Ts) T B
  have sc := sc_law_moved
  refine fn_ok (K := ⟨K, Ts⟩) (m := b_law_moved) T.F_law_moved sc rfl rfl rfl fun cdv A outer s H E hr px tk po => ?_
  exact (ss_cons (ss_set (i := 2) sc.nd rfl (by first | exact Or.inl rfl | exact Or.inr rfl) (se_lst sa_nil))
  (ss_cons (ss_for po rfl (si_zip rfl (by rfl) T.b_zip (se_var rfl (pv 0)) (se_call rfl rfl px G_law_about (hr.mono (by decide)) (by rfl) T.g_law_about T.F_law_about.kp T.n_law_about (fun _ h => mFn_len h) (sa_cons (se_var rfl (pv 0)) sa_nil))) (sg_tup rfl rfl (sgs_cons (sg_name sc.nd rfl (by first | exact Or.inl rfl | exact Or.inr rfl)) (sgs_cons (sg_name sc.nd rfl (by first | exact Or.inl rfl | exact Or.inr rfl)) sgs_nil))) (ss_cons (ss_if (st_cmp op_ge ok_ge (se_var rfl (pv 3)) (se_var rfl (pv 4)) (nomark _)) (ss_one (ss_set (i := 3) sc.nd rfl (by first | exact Or.inl rfl | exact Or.inr rfl) (se_op op_addU ok_add (se_var rfl (pv 3)) (se_var rfl (pv 1))))) ss_nil)
  (ss_one (ss_app (i := 2) (R := [3]) rfl (pe_bm PySem.F.plainAttrs_list PySem.F.slot_list_append PySem.F.type_list_append mt_append (pv 2) (pa_cons (se_var rfl (pv 3)) pa_nil))))))
  (ss_one (ss_ret (se_callTy ok_tuple call_tuple_of (by rfl) T.b_tuple bt_tuple (sa_cons (se_var rfl (pv 2)) sa_nil))))))
theorem ok_law_opened (T : Txt K mg) (B : Tb T Ts base) : FnOk P w K mg base (L2.CX P w) 4 T.a_law_opened T.d_law_opened ["_law_term", "_law_place"] (spP ⟨K, Ts⟩ mg 2 m_law_opened) := by
  have G_law_ends := ok_law_ends (P := P) (w := w) (base := base) (Ts := Ts) T B
  have G_law_moved := ok_law_moved (P := P) (w := w) (base := base) (Ts := Ts) T B
  have sc := sc_law_opened
  refine fn_ok (K := ⟨K, Ts⟩) (m := b_law_opened) T.F_law_opened sc rfl rfl rfl fun cdv A outer s H E hr px tk po => ?_
  exact (ss_cons (ss_set (i := 2) sc.nd rfl (by first | exact Or.inl rfl | exact Or.inr rfl) (se_ix ix_seq ok_ix (se_call rfl rfl px G_law_ends (hr.mono (by decide)) (by rfl) T.g_law_ends T.F_law_ends.kp T.n_law_ends (fun _ h => mFn_len h) (sa_cons (se_var rfl (pv 0)) sa_nil)) (se_var rfl (pv 1)) (fun _ _ => rfl)))
  (ss_one (ss_ret (se_op op_addU ok_add (se_op op_addU ok_add (se_op op_addU ok_add (se_op op_addU ok_add (se_slice rfl (se_var rfl (pv 0)) so_none (so_some (se_var rfl (pv 1)))) (se_tup (sa_cons (se_un un_neg ok_neg (se_c pe_int (fun _ _ => .int _))) (sa_cons (se_un un_neg ok_neg (se_c pe_int (fun _ _ => .int _))) sa_nil)))) (se_call rfl rfl px G_law_moved (hr.mono (by decide)) (by rfl) T.g_law_moved T.F_law_moved.kp T.n_law_moved (fun _ h => mFn_len h) (sa_cons (se_slice rfl (se_var rfl (pv 0)) (so_some (se_var rfl (pv 1))) (so_some (se_var rfl (pv 2)))) (sa_cons (se_c pe_int (fun _ _ => .int _)) sa_nil)))) (se_tup (sa_cons (se_c pe_int (fun _ _ => .int _)) sa_nil))) (se_slice rfl (se_var rfl (pv 0)) (so_some (se_var rfl (pv 2))) so_none)))))
theorem ok_law_closed_again (T : Txt K mg) (B : Tb T Ts base) : FnOk P w K mg base (L2.CX P w) 3 T.a_law_closed_again T.d_law_closed_again ["_law_term", "_law_place"] (spP ⟨K, Ts⟩ mg 2 m_law_closed_again) := by
  have G_law_about := ok_law_about (P := P) (w := w) (base := base) (Ts := Ts) T B
  have G_law_ends := ok_law_ends (P := P) (w := w) (base := base) (Ts := Ts) T B
  have sc := sc_law_closed_again
  refine fn_ok (K := ⟨K, Ts⟩) (m := b_law_closed_again) T.F_law_closed_again sc rfl rfl rfl fun cdv A outer s H E hr px tk po => ?_
  exact (ss_cons (ss_if (PW.pt (sw_or (st_cmp (op_neD hr.units) ok_ne (se_ix ix_seq ok_ix (se_var rfl (pv 0)) (se_var rfl (pv 1)) (fun _ _ => rfl)) (se_un un_neg ok_neg (se_c pe_int (fun _ _ => .int _))) (nomark _)) (sw_or1 (st_cmp (op_neD hr.units) ok_ne (se_ix ix_seq ok_ix (se_var rfl (pv 0)) (se_op op_addU ok_add (se_var rfl (pv 1)) (se_c pe_int (fun _ _ => .int _))) (fun _ _ => rfl)) (se_un un_neg ok_neg (se_c pe_int (fun _ _ => .int _))) (nomark _))))) (ss_one (ss_ret (se_c pe_non (fun _ _ => .non)))) ss_nil)
  (ss_cons (ss_set (i := 2) sc.nd rfl (by first | exact Or.inl rfl | exact Or.inr rfl) (se_ix ix_seq ok_ix (se_call rfl rfl px G_law_ends (hr.mono (by decide)) (by rfl) T.g_law_ends T.F_law_ends.kp T.n_law_ends (fun _ h => mFn_len h) (sa_cons (se_var rfl (pv 0)) sa_nil)) (se_op op_addU ok_add (se_var rfl (pv 1)) (se_c pe_int (fun _ _ => .int _))) (fun _ _ => rfl)))
  (ss_cons (ss_set (i := 3) sc.nd rfl (by first | exact Or.inl rfl | exact Or.inr rfl) (se_lst sa_nil))
  (ss_cons (ss_for po rfl (si_zip rfl (by rfl) T.b_zip (se_slice rfl (se_var rfl (pv 0)) (so_some (se_op op_addU ok_add (se_var rfl (pv 1)) (se_c pe_int (fun _ _ => .int _)))) (so_some (se_var rfl (pv 2)))) (se_call rfl rfl px G_law_about (hr.mono (by decide)) (by rfl) T.g_law_about T.F_law_about.kp T.n_law_about (fun _ h => mFn_len h) (sa_cons (se_slice rfl (se_var rfl (pv 0)) (so_some (se_op op_addU ok_add (se_var rfl (pv 1)) (se_c pe_int (fun _ _ => .int _)))) (so_some (se_var rfl (pv 2)))) sa_nil))) (sg_tup rfl rfl (sgs_cons (sg_name sc.nd rfl (by first | exact Or.inl rfl | exact Or.inr rfl)) (sgs_cons (sg_name sc.nd rfl (by first | exact Or.inl rfl | exact Or.inr rfl)) sgs_nil))) (ss_cons (ss_if (st_cmp (op_eqD hr.units) ok_eq (se_var rfl (pv 4)) (se_var rfl (pv 5)) (nomark _)) (ss_one (ss_ret (se_c pe_non (fun _ _ => .non)))) ss_nil)
  (ss_cons (ss_if (st_cmp op_gt ok_gt (se_var rfl (pv 4)) (se_var rfl (pv 5)) (nomark _)) (ss_one (ss_set (i := 4) sc.nd rfl (by first | exact Or.inl rfl | exact Or.inr rfl) (se_op op_sub ok_sub (se_var rfl (pv 4)) (se_c pe_int (fun _ _ => .int _))))) ss_nil)
  (ss_one (ss_app (i := 3) (R := [4]) rfl (pe_bm PySem.F.plainAttrs_list PySem.F.slot_list_append PySem.F.type_list_append mt_append (pv 3) (pa_cons (se_var rfl (pv 4)) pa_nil)))))))
  (ss_cons (ss_if (st_cmp (op_neD hr.units) ok_ne (se_ix ix_seq ok_ix (se_var rfl (pv 0)) (se_var rfl (pv 2)) (fun _ _ => rfl)) (se_c pe_int (fun _ _ => .int _)) (nomark _)) (ss_one (ss_ret (se_c pe_non (fun _ _ => .non)))) ss_nil)
  (ss_one (ss_ret (se_op op_addU ok_add (se_op op_addU ok_add (se_slice rfl (se_var rfl (pv 0)) so_none (so_some (se_var rfl (pv 1)))) (se_callTy ok_tuple call_tuple_of (by rfl) T.b_tuple bt_tuple (sa_cons (se_var rfl (pv 3)) sa_nil))) (se_slice rfl (se_var rfl (pv 0)) (so_some (se_op op_addU ok_add (se_var rfl (pv 2)) (se_c pe_int (fun _ _ => .int _)))) so_none)))))))))
theorem ok_law_openings (T : Txt K mg) (B : Tb T Ts base) : FnOk P w K mg base (L2.CX P w) 4 T.a_law_openings T.d_law_openings ["_law_term"] (spP ⟨K, Ts⟩ mg 1 m_law_openings) := by
  have G_law_closed_again := ok_law_closed_again (P := P) (w := w) (base := base) (Ts := Ts) T B
  have sc := sc_law_openings
  refine fn_ok (K := ⟨K, Ts⟩) (m := b_law_openings) T.F_law_openings sc rfl rfl rfl fun cdv A outer s H E hr px tk po => ?_
  exact (ss_one (ss_ret (se_comp (own := [("_law_place", 1)]) rfl rfl sc.nd (si_range1 (by rfl) T.b_range (se_callB ok_len call_lenU (by rfl) T.b_len bt_len (sa_cons (se_var rfl (pv 0)) sa_nil))) (blkOk_by (own := [("_law_place", 1)]) (N := N_law_openings) (sc := defScope s_law_openings) (by decide +kernel)) (by decide) (fun _ _ _ _ _ => (sg_name sc.nd rfl (by first | exact Or.inl rfl | exact Or.inr rfl))) (fun _ _ _ _ _ => (sts_one (st_notN (se_call rfl rfl S.passL G_law_closed_again (hr.mono (by decide)) (by rfl) T.g_law_closed_again T.F_law_closed_again.kp T.n_law_closed_again (fun _ h => mFn_len h) (sa_cons (se_var rfl (pv 0)) (sa_cons (se_var rfl (pv 1)) sa_nil)))))) (fun _ _ _ _ _ => (se_var rfl (pv 1))))))
theorem ok_all_ends (T : Txt K mg) (B : Tb T Ts base) : FnOk P w K mg base (L2.CX P w) 1 T.a_all_ends T.d_all_ends ["term"] (spP ⟨K, Ts⟩ mg 1 m_all_ends) := by
  have sc := sc_all_ends
  refine fn_ok (K := ⟨K, Ts⟩) (m := b_all_ends) T.F_all_ends sc rfl rfl rfl fun cdv A outer s H E hr px tk po => ?_
  exact (ss_cons (ss_setComp (i := 1) (own := [("number", 3)]) rfl rfl sc.nd rfl rfl (sw_true rfl rfl rfl (by decide +kernel)) (si_seq rfl (se_var rfl (pv 0))) (blkOk_by (own := [("number", 3)]) (N := N_all_ends) (sc := defScope s_all_ends) (by decide +kernel)) (by decide) (fun _ _ _ _ _ => (sg_name sc.nd rfl (by first | exact Or.inl rfl | exact Or.inr rfl))) (fun _ _ _ _ _ => sts_nil) (fun _ _ _ _ _ => (se_c pe_int (fun _ _ => .int _))))
  (ss_cons (ss_for po rfl (si_rangeD (by rfl) T.b_range (se_op op_sub ok_sub (se_callB ok_len call_lenU (by rfl) T.b_len bt_len (sa_cons (se_var rfl (pv 0)) sa_nil)) (se_c pe_int (fun _ _ => .int _))) (se_un un_neg ok_neg (se_c pe_int (fun _ _ => .int _)))) (sg_name sc.nd rfl (by first | exact Or.inl rfl | exact Or.inr rfl)) (ss_cons (ss_storeU hr.units (pv 1) (se_var rfl (pv 2)) (se_op op_addU ok_add (se_var rfl (pv 2)) (se_c pe_int (fun _ _ => .int _))))
  (ss_cons (ss_if (st_cmp (op_eqD hr.units) ok_eq (se_ix ix_seq ok_ix (se_var rfl (pv 0)) (se_var rfl (pv 2)) (fun _ _ => rfl)) (se_gInt rfl T.c_TURN) (nomark _)) (ss_one (ss_storeU hr.units (pv 1) (se_var rfl (pv 2)) (se_ix ix_seq ok_ix (se_var rfl (pv 1)) (se_op op_addU ok_add (se_var rfl (pv 2)) (se_c pe_int (fun _ _ => .int _))) (fun _ _ => rfl)))) ss_nil)
  (ss_one (ss_if (st_cmp (op_eqD hr.units) ok_eq (se_ix ix_seq ok_ix (se_var rfl (pv 0)) (se_var rfl (pv 2)) (fun _ _ => rfl)) (se_gInt rfl T.c_GIFT) (nomark _)) (ss_one (ss_storeU hr.units (pv 1) (se_var rfl (pv 2)) (se_ix ix_seq ok_ix (se_var rfl (pv 1)) (se_ix ix_seq ok_ix (se_var rfl (pv 1)) (se_op op_addU ok_add (se_var rfl (pv 2)) (se_c pe_int (fun _ _ => .int _))) (fun _ _ => rfl)) (fun _ _ => rfl)))) ss_nil)))))
  (ss_one (ss_retV (pv 1)))))
theorem ok_all_around (T : Txt K mg) (B : Tb T Ts base) : FnOk P w K mg base (L2.CX P w) 2 T.a_all_around T.d_all_around ["term"] (spP ⟨K, Ts⟩ mg 1 m_all_around) := by
  have G_all_ends := ok_all_ends (P := P) (w := w) (base := base) (Ts := Ts) T B
  have sc := sc_all_around
  refine fn_ok (K := ⟨K, Ts⟩) (m := b_all_around) T.F_all_around sc rfl rfl rfl fun cdv A outer s H E hr px tk po => ?_
  exact (ss_cons (ss_set (i := 1) sc.nd rfl (by first | exact Or.inl rfl | exact Or.inr rfl) (se_call rfl rfl px G_all_ends (hr.mono (by decide)) (by rfl) T.g_all_ends T.F_all_ends.kp T.n_all_ends (fun _ h => mFn_len h) (sa_cons (se_var rfl (pv 0)) sa_nil)))
  (ss_cons (ss_set (i := 2) sc.nd rfl (by first | exact Or.inl rfl | exact Or.inr rfl) (se_lst sa_nil))
  (ss_cons (ss_set (i := 3) sc.nd rfl (by first | exact Or.inl rfl | exact Or.inr rfl) (se_lst sa_nil))
  (ss_cons (ss_for po rfl (si_enum rfl (by rfl) T.b_enumerate (se_var rfl (pv 0))) (sg_tup rfl rfl (sgs_cons (sg_name sc.nd rfl (by first | exact Or.inl rfl | exact Or.inr rfl)) (sgs_cons (sg_name sc.nd rfl (by first | exact Or.inl rfl | exact Or.inr rfl)) sgs_nil))) (ss_cons (ss_while po (PW.pt (sw_and (st_cmp (op_neD hr.units) ok_ne (se_var rfl (pv 2)) (se_lst sa_nil) (nomark _)) (sw_and1 (st_cmp op_le ok_le (se_ix ix_seq ok_ix (se_var rfl (pv 2)) (se_un un_neg ok_neg (se_c pe_int (fun _ _ => .int _))) (fun _ _ => rfl)) (se_var rfl (pv 4)) (nomark _))))) (ss_one (ss_pop rfl (pe_bm0 PySem.F.plainAttrs_list PySem.F.slot_list_pop PySem.F.type_list_pop mt_pop (pv 2)))))
  (ss_cons (ss_app (i := 3) (R := ([2] ++ [])) rfl (pe_bm PySem.F.plainAttrs_list PySem.F.slot_list_append PySem.F.type_list_append mt_append (pv 3) (pa_cons (se_callB ok_len call_lenU (by rfl) T.b_len bt_len (sa_cons (se_var rfl (pv 2)) sa_nil)) pa_nil)))
  (ss_one (ss_if (st_cmp (op_eqD hr.units) ok_eq (se_var rfl (pv 5)) (se_gInt rfl T.c_TURN) (nomark _)) (ss_one (ss_app (i := 2) (R := ([1] ++ [4])) rfl (pe_bm PySem.F.plainAttrs_list PySem.F.slot_list_append PySem.F.type_list_append mt_append (pv 2) (pa_cons (se_ix ix_seq ok_ix (se_var rfl (pv 1)) (se_var rfl (pv 4)) (fun _ _ => rfl)) pa_nil)))) ss_nil)))))
  (ss_one (ss_retV (pv 3)))))))
theorem ok_means_none (T : Txt K mg) (B : Tb T Ts base) : FnOk P w K mg base (L2.CX P w) 3 T.a_means_none T.d_means_none ["term"] (spP ⟨K, Ts⟩ mg 1 m_means_none) := by
  have G_all_around := ok_all_around (P := P) (w := w) (base := base) (Ts := Ts) T B
  have sc := sc_means_none
  refine fn_ok (K := ⟨K, Ts⟩) (m := b_means_none) T.F_means_none sc rfl rfl rfl fun cdv A outer s H E hr px tk po => ?_
  exact (ss_cons (ss_for po rfl (si_zip rfl (by rfl) T.b_zip (se_var rfl (pv 0)) (se_call rfl rfl px G_all_around (hr.mono (by decide)) (by rfl) T.g_all_around T.F_all_around.kp T.n_all_around (fun _ h => mFn_len h) (sa_cons (se_var rfl (pv 0)) sa_nil))) (sg_tup rfl rfl (sgs_cons (sg_name sc.nd rfl (by first | exact Or.inl rfl | exact Or.inr rfl)) (sgs_cons (sg_name sc.nd rfl (by first | exact Or.inl rfl | exact Or.inr rfl)) sgs_nil))) (ss_one (ss_if (st_cmp (op_eqD hr.units) ok_eq (se_var rfl (pv 1)) (se_var rfl (pv 2)) (nomark _)) (ss_one (ss_ret (se_c pe_bl (fun _ _ => .bl _)))) ss_nil)))
  (ss_one (ss_ret (se_c pe_bl (fun _ _ => .bl _)))))
theorem ok_more_due (T : Txt K mg) (B : Tb T Ts base) : FnOk P w K mg base (L2.CX P w) 1 T.a_more_due T.d_more_due ["number"] (spP ⟨K, Ts⟩ mg 1 m_more_due) := by
  have sc := sc_more_due
  refine fn_ok (K := ⟨K, Ts⟩) (m := b_more_due) T.F_more_due sc rfl rfl rfl fun cdv A outer s H E hr px tk po => ?_
  exact (ss_cons (ss_if (st_cmp (op_eqD hr.units) ok_eq (se_var rfl (pv 0)) (se_gInt rfl T.c_GIFT) (nomark _)) (ss_one (ss_ret (se_c pe_int (fun _ _ => .int _)))) ss_nil)
  (ss_cons (ss_if (st_cmp (op_eqD hr.units) ok_eq (se_var rfl (pv 0)) (se_gInt rfl T.c_TURN) (nomark _)) (ss_one (ss_ret (se_c pe_int (fun _ _ => .int _)))) ss_nil)
  (ss_one (ss_ret (se_un un_neg ok_neg (se_c pe_int (fun _ _ => .int _)))))))
theorem ok_part_end (T : Txt K mg) (B : Tb T Ts base) : FnOk P w K mg base (L2.CX P w) 2 T.a_part_end T.d_part_end ["term", "place"] (spP ⟨K, Ts⟩ mg 2 m_part_end) := by
  have G_more_due := ok_more_due (P := P) (w := w) (base := base) (Ts := Ts) T B
  have sc := sc_part_end
  refine fn_ok (K := ⟨K, Ts⟩) (m := b_part_end) T.F_part_end sc rfl rfl rfl fun cdv A outer s H E hr px tk po => ?_
  exact (ss_cons (ss_set (i := 2) sc.nd rfl (by first | exact Or.inl rfl | exact Or.inr rfl) (se_c pe_int (fun _ _ => .int _)))
  (ss_cons (ss_set (i := 3) sc.nd rfl (by first | exact Or.inl rfl | exact Or.inr rfl) (se_var rfl (pv 1)))
  (ss_cons (ss_while po (st_cmp op_gt ok_gt (se_var rfl (pv 2)) (se_c pe_int (fun _ _ => .int _)) (nomark _)) (ss_cons (ss_aug (i := 2) sc.nd rfl (by first | exact Or.inl rfl | exact Or.inr rfl) (se_call rfl rfl px G_more_due (hr.mono (by decide)) (by rfl) T.g_more_due T.F_more_due.kp T.n_more_due (fun _ h => mFn_len h) (sa_cons (se_ix ix_seq ok_ix (se_var rfl (pv 0)) (se_var rfl (pv 3)) (fun _ _ => rfl)) sa_nil)))
  (ss_one (ss_aug (i := 3) sc.nd rfl (by first | exact Or.inl rfl | exact Or.inr rfl) (se_c pe_int (fun _ _ => .int _))))))
  (ss_one (ss_retV (pv 3))))))
theorem ok_taker_of (T : Txt K mg) (B : Tb T Ts base) : FnOk P w K mg base (L2.CX P w) 3 T.a_taker_of T.d_taker_of ["term", "place"] (spP ⟨K, Ts⟩ mg 2 m_taker_of) := by
  have G_part_end := ok_part_end (P := P) (w := w) (base := base) (Ts := Ts) T B
  have sc := sc_taker_of
  refine fn_ok (K := ⟨K, Ts⟩) (m := b_taker_of) T.F_taker_of sc rfl rfl rfl fun cdv A outer s H E hr px tk po => ?_
  exact (ss_one (ss_ret (se_slice rfl (se_var rfl (pv 0)) (so_some (se_op op_addU ok_add (se_var rfl (pv 1)) (se_c pe_int (fun _ _ => .int _)))) (so_some (se_call rfl rfl px G_part_end (hr.mono (by decide)) (by rfl) T.g_part_end T.F_part_end.kp T.n_part_end (fun _ h => mFn_len h) (sa_cons (se_var rfl (pv 0)) (sa_cons (se_op op_addU ok_add (se_var rfl (pv 1)) (se_c pe_int (fun _ _ => .int _))) sa_nil)))))))
theorem ok_is_opening (T : Txt K mg) (B : Tb T Ts base) : FnOk P w K mg base (L2.CX P w) 4 T.a_is_opening T.d_is_opening ["term", "place"] (spP ⟨K, Ts⟩ mg 2 m_is_opening) := by
  have G_means_none := ok_means_none (P := P) (w := w) (base := base) (Ts := Ts) T B
  have G_taker_of := ok_taker_of (P := P) (w := w) (base := base) (Ts := Ts) T B
  have sc := sc_is_opening
  refine fn_ok (K := ⟨K, Ts⟩) (m := b_is_opening) T.F_is_opening sc rfl rfl rfl fun cdv A outer s H E hr px tk po => ?_
  exact (ss_cons (ss_if (PW.pt (sw_or (st_cmp (op_neD hr.units) ok_ne (se_ix ix_seq ok_ix (se_var rfl (pv 0)) (se_var rfl (pv 1)) (fun _ _ => rfl)) (se_gInt rfl T.c_TURN) (nomark _)) (sw_or1 (st_cmp (op_neD hr.units) ok_ne (se_ix ix_seq ok_ix (se_var rfl (pv 0)) (se_op op_addU ok_add (se_var rfl (pv 1)) (se_c pe_int (fun _ _ => .int _))) (fun _ _ => rfl)) (se_gInt rfl T.c_GIFT) (nomark _))))) (ss_one (ss_ret (se_c pe_bl (fun _ _ => .bl _)))) ss_nil)
  (ss_cons (ss_set (i := 2) sc.nd rfl (by first | exact Or.inl rfl | exact Or.inr rfl) (se_call rfl rfl px G_taker_of (hr.mono (by decide)) (by rfl) T.g_taker_of T.F_taker_of.kp T.n_taker_of (fun _ h => mFn_len h) (sa_cons (se_var rfl (pv 0)) (sa_cons (se_var rfl (pv 1)) sa_nil))))
  (ss_one (ss_ret (se_and (se_cmp (op_eqD hr.units) ok_eq (se_ix ix_seq ok_ix (se_var rfl (pv 0)) (se_op op_addU ok_add (se_op op_addU ok_add (se_var rfl (pv 1)) (se_c pe_int (fun _ _ => .int _))) (se_callB ok_len call_lenU (by rfl) T.b_len bt_len (sa_cons (se_var rfl (pv 2)) sa_nil))) (fun _ _ => rfl)) (se_c pe_int (fun _ _ => .int _)) (nomark _)) (se_one (se_call rfl rfl px G_means_none (hr.mono (by decide)) (by rfl) T.g_means_none T.F_means_none.kp T.n_means_none (fun _ h => mFn_len h) (sa_cons (se_var rfl (pv 2)) sa_nil))))))))
theorem ok_all_openings (T : Txt K mg) (B : Tb T Ts base) : FnOk P w K mg base (L2.CX P w) 5 T.a_all_openings T.d_all_openings ["term"] (spP ⟨K, Ts⟩ mg 1 m_all_openings) := by
  have G_is_opening := ok_is_opening (P := P) (w := w) (base := base) (Ts := Ts) T B
  have sc := sc_all_openings
  refine fn_ok (K := ⟨K, Ts⟩) (m := b_all_openings) T.F_all_openings sc rfl rfl rfl fun cdv A outer s H E hr px tk po => ?_
  exact (ss_one (ss_ret (se_comp (own := [("place", 1)]) rfl rfl sc.nd (si_range1 (by rfl) T.b_range (se_callB ok_len call_lenU (by rfl) T.b_len bt_len (sa_cons (se_var rfl (pv 0)) sa_nil))) (blkOk_by (own := [("place", 1)]) (N := N_all_openings) (sc := defScope s_all_openings) (by decide +kernel)) (by decide) (fun _ _ _ _ _ => (sg_name sc.nd rfl (by first | exact Or.inl rfl | exact Or.inr rfl))) (fun _ _ _ _ _ => (sts_one (st_val (se_call rfl rfl S.passL G_is_opening (hr.mono (by decide)) (by rfl) T.g_is_opening T.F_is_opening.kp T.n_is_opening (fun _ h => mFn_len h) (sa_cons (se_var rfl (pv 0)) (sa_cons (se_var rfl (pv 1)) sa_nil)))))) (fun _ _ _ _ _ => (se_var rfl (pv 1))))))
theorem ok_is_read (T : Txt K mg) (B : Tb T Ts base) : FnOk P w K mg base (L2.CX P w) 2 T.a_is_read T.d_is_read ["numbers"] (spP ⟨K, Ts⟩ mg 1 m_is_read) := by
  have G_more_due := ok_more_due (P := P) (w := w) (base := base) (Ts := Ts) T B
  have sc := sc_is_read
  refine fn_ok (K := ⟨K, Ts⟩) (m := b_is_read) T.F_is_read sc rfl rfl rfl fun cdv A outer s H E hr px tk po => ?_
  exact (ss_cons (ss_set (i := 1) sc.nd rfl (by first | exact Or.inl rfl | exact Or.inr rfl) (se_c pe_int (fun _ _ => .int _)))
  (ss_cons (ss_for po rfl (si_seq rfl (se_var rfl (pv 0))) (sg_name sc.nd rfl (by first | exact Or.inl rfl | exact Or.inr rfl)) (ss_cons (ss_if (st_cmp (op_eqD hr.units) ok_eq (se_var rfl (pv 1)) (se_c pe_int (fun _ _ => .int _)) (nomark _)) (ss_one (ss_ret (se_c pe_bl (fun _ _ => .bl _)))) ss_nil)
  (ss_one (ss_aug (i := 1) sc.nd rfl (by first | exact Or.inl rfl | exact Or.inr rfl) (se_call rfl rfl px G_more_due (hr.mono (by decide)) (by rfl) T.g_more_due T.F_more_due.kp T.n_more_due (fun _ h => mFn_len h) (sa_cons (se_var rfl (pv 2)) sa_nil))))))
  (ss_one (ss_ret (se_cmp (op_eqD hr.units) ok_eq (se_var rfl (pv 1)) (se_c pe_int (fun _ _ => .int _)) (nomark _))))))
theorem ok_is_whole (T : Txt K mg) (B : Tb T Ts base) : FnOk P w K mg base (L2.CX P w) 1 T.a_is_whole T.d_is_whole ["thing"] (spP ⟨K, Ts⟩ mg 1 m_is_whole) := by
  have sc := sc_is_whole
  refine fn_ok (K := ⟨K, Ts⟩) (m := b_is_whole) T.F_is_whole sc rfl rfl rfl fun cdv A outer s H E hr px tk po => ?_
  exact (ss_one (ss_ret (se_and (se_isi rfl (by rfl) T.b_isinstance (by rfl) T.b_int bt_int (se_var rfl (pv 0))) (se_one (se_not (se_isi rfl (by rfl) T.b_isinstance (by rfl) T.b_bool bt_bool (se_var rfl (pv 0))))))))
theorem ok_is_term (T : Txt K mg) (B : Tb T Ts base) : FnOk P w K mg base (L2.CX P w) 3 T.a_is_term T.d_is_term ["thing"] (spP ⟨K, Ts⟩ mg 1 m_is_term) := by
  have G_is_read := ok_is_read (P := P) (w := w) (base := base) (Ts := Ts) T B
  have G_is_whole := ok_is_whole (P := P) (w := w) (base := base) (Ts := Ts) T B
  have sc := sc_is_term
  refine fn_ok (K := ⟨K, Ts⟩) (m := b_is_term) T.F_is_term sc rfl rfl rfl fun cdv A outer s H E hr px tk po => ?_
  exact (ss_cons (ss_if (PW.pt (sw_or (st_not (st_val (se_isi rfl (by rfl) T.b_isinstance (by rfl) T.b_tuple bt_tuple (se_var rfl (pv 0))))) (sw_or (st_cmp (op_eqD hr.units) ok_eq (se_callB ok_len call_lenU (by rfl) T.b_len bt_len (sa_cons (se_var rfl (pv 0)) sa_nil)) (se_c pe_int (fun _ _ => .int _)) (nomark _)) (sw_or1 (st_cmp op_gt ok_gt (se_callB ok_len call_lenU (by rfl) T.b_len bt_len (sa_cons (se_var rfl (pv 0)) sa_nil)) (se_gInt rfl T.c_MOST) (nomark _)))))) (ss_one (ss_ret (se_c pe_bl (fun _ _ => .bl _)))) ss_nil)
  (ss_cons (ss_for po rfl (si_seq rfl (se_var rfl (pv 0))) (sg_name sc.nd rfl (by first | exact Or.inl rfl | exact Or.inr rfl)) (ss_one (ss_if (PW.pt (sw_or (st_not (st_val (se_call rfl rfl px G_is_whole (hr.mono (by decide)) (by rfl) T.g_is_whole T.F_is_whole.kp T.n_is_whole (fun _ h => mFn_len h) (sa_cons (se_var rfl (pv 1)) sa_nil)))) (sw_or (st_cmp op_lt ok_lt (se_var rfl (pv 1)) (se_gInt rfl T.c_GIFT) (nomark _)) (sw_or1 (st_cmp op_gt ok_gt (se_var rfl (pv 1)) (se_gInt rfl T.c_FAR) (nomark _)))))) (ss_one (ss_ret (se_c pe_bl (fun _ _ => .bl _)))) ss_nil)))
  (ss_one (ss_ret (se_call rfl rfl px G_is_read (hr.mono (by decide)) (by rfl) T.g_is_read T.F_is_read.kp T.n_is_read (fun _ h => mFn_len h) (sa_cons (se_var rfl (pv 0)) sa_nil))))))
theorem ok_look_term (T : Txt K mg) (B : Tb T Ts base) : FnOk P w K mg base (L2.CX P w) 4 T.a_look_term T.d_look_term ["thing"] (spP ⟨K, Ts⟩ mg 1 m_look_term) := by
  have G_is_term := ok_is_term (P := P) (w := w) (base := base) (Ts := Ts) T B
  have sc := sc_look_term
  refine fn_ok (K := ⟨K, Ts⟩) (m := b_look_term) T.F_look_term sc rfl rfl rfl fun cdv A outer s H E hr px tk po => ?_
  exact (ss_one (ss_if (st_not (st_val (se_call rfl rfl px G_is_term (hr.mono (by decide)) (by rfl) T.g_is_term T.F_is_term.kp T.n_is_term (fun _ h => mFn_len h) (sa_cons (se_var rfl (pv 0)) sa_nil)))) (ss_one (ss_raise0 rfl rfl tk PySem.F.excBase_ValueError T.x_NoTerm T.g_NoTerm T.k_NoTerm (raises_own T.s_NoTerm T.t_NoTerm) (by rfl))) ss_nil))
theorem ok_look_small (T : Txt K mg) (B : Tb T Ts base) : FnOk P w K mg base (L2.CX P w) 5 T.a_look_small T.d_look_small ["term"] (spP ⟨K, Ts⟩ mg 1 m_look_small) := by
  have G_look_term := ok_look_term (P := P) (w := w) (base := base) (Ts := Ts) T B
  have sc := sc_look_small
  refine fn_ok (K := ⟨K, Ts⟩) (m := b_look_small) T.F_look_small sc rfl rfl rfl fun cdv A outer s H E hr px tk po => ?_
  exact (ss_cons (ss_expr (se_call rfl rfl px G_look_term (hr.mono (by decide)) (by rfl) T.g_look_term T.F_look_term.kp T.n_look_term (fun _ h => mFn_len h) (sa_cons (se_var rfl (pv 0)) sa_nil)))
  (ss_one (ss_if (st_cmp op_gt ok_gt (se_callB ok_len call_lenU (by rfl) T.b_len bt_len (sa_cons (se_var rfl (pv 0)) sa_nil)) (se_gInt rfl T.c_SMALL) (nomark _)) (ss_one (ss_raise0 rfl rfl tk PySem.F.excBase_ValueError T.x_NoSize T.g_NoSize T.k_NoSize (raises_own T.s_NoSize T.t_NoSize) (by rfl))) ss_nil)))
theorem ok_openings (T : Txt K mg) (B : Tb T Ts base) : FnOk P w K mg base (L2.CX P w) 6 T.a_openings T.d_openings ["term"] (spP ⟨K, Ts⟩ mg 1 m_openings) := by
  have G_all_openings := ok_all_openings (P := P) (w := w) (base := base) (Ts := Ts) T B
  have G_look_small := ok_look_small (P := P) (w := w) (base := base) (Ts := Ts) T B
  have sc := sc_openings
  refine fn_ok (K := ⟨K, Ts⟩) (m := b_openings) T.F_openings sc rfl rfl rfl fun cdv A outer s H E hr px tk po => ?_
  exact (ss_cons (ss_expr (se_call rfl rfl px G_look_small (hr.mono (by decide)) (by rfl) T.g_look_small T.F_look_small.kp T.n_look_small (fun _ h => mFn_len h) (sa_cons (se_var rfl (pv 0)) sa_nil)))
  (ss_one (ss_ret (se_call rfl rfl px G_all_openings (hr.mono (by decide)) (by rfl) T.g_all_openings T.F_all_openings.kp T.n_all_openings (fun _ h => mFn_len h) (sa_cons (se_var rfl (pv 0)) sa_nil)))))
theorem ok_look_place (T : Txt K mg) (B : Tb T Ts base) : FnOk P w K mg base (L2.CX P w) 2 T.a_look_place T.d_look_place ["place", "term"] (spP ⟨K, Ts⟩ mg 2 m_look_place) := by
  have G_is_whole := ok_is_whole (P := P) (w := w) (base := base) (Ts := Ts) T B
  have sc := sc_look_place
  refine fn_ok (K := ⟨K, Ts⟩) (m := b_look_place) T.F_look_place sc rfl rfl rfl fun cdv A outer s H E hr px tk po => ?_
  exact (ss_one (ss_if (PW.pt (sw_or (st_not (st_val (se_call rfl rfl px G_is_whole (hr.mono (by decide)) (by rfl) T.g_is_whole T.F_is_whole.kp T.n_is_whole (fun _ h => mFn_len h) (sa_cons (se_var rfl (pv 0)) sa_nil)))) (sw_or (st_cmp op_lt ok_lt (se_var rfl (pv 0)) (se_c pe_int (fun _ _ => .int _)) (nomark _)) (sw_or1 (st_cmp op_ge ok_ge (se_var rfl (pv 0)) (se_callB ok_len call_lenU (by rfl) T.b_len bt_len (sa_cons (se_var rfl (pv 1)) sa_nil)) (nomark _)))))) (ss_one (ss_raise0 rfl rfl tk PySem.F.excBase_ValueError T.x_NoPlace T.g_NoPlace T.k_NoPlace (raises_own T.s_NoPlace T.t_NoPlace) (by rfl))) ss_nil))
theorem ok_look_opening (T : Txt K mg) (B : Tb T Ts base) : FnOk P w K mg base (L2.CX P w) 5 T.a_look_opening T.d_look_opening ["term", "place"] (spP ⟨K, Ts⟩ mg 2 m_look_opening) := by
  have G_is_opening := ok_is_opening (P := P) (w := w) (base := base) (Ts := Ts) T B
  have G_look_place := ok_look_place (P := P) (w := w) (base := base) (Ts := Ts) T B
  have sc := sc_look_opening
  refine fn_ok (K := ⟨K, Ts⟩) (m := b_look_opening) T.F_look_opening sc rfl rfl rfl fun cdv A outer s H E hr px tk po => ?_
  exact (ss_cons (ss_expr (se_call rfl rfl px G_look_place (hr.mono (by decide)) (by rfl) T.g_look_place T.F_look_place.kp T.n_look_place (fun _ h => mFn_len h) (sa_cons (se_var rfl (pv 1)) (sa_cons (se_var rfl (pv 0)) sa_nil))))
  (ss_one (ss_if (st_not (st_val (se_call rfl rfl px G_is_opening (hr.mono (by decide)) (by rfl) T.g_is_opening T.F_is_opening.kp T.n_is_opening (fun _ h => mFn_len h) (sa_cons (se_var rfl (pv 0)) (sa_cons (se_var rfl (pv 1)) sa_nil))))) (ss_one (ss_raise0 rfl rfl tk PySem.F.excBase_ValueError T.x_NoOpening T.g_NoOpening T.k_NoOpening (raises_own T.s_NoOpening T.t_NoOpening) (by rfl))) ss_nil)))
theorem ok_moved_by (T : Txt K mg) (B : Tb T Ts base) : FnOk P w K mg base (L2.CX P w) 3 T.a_moved_by T.d_moved_by ["term", "many", "least"] (spP ⟨K, Ts⟩ mg 3 m_moved_by) := by
  have G_all_around := ok_all_around (P := P) (w := w) (base := base) (Ts := Ts) T B
  have sc := sc_moved_by
  refine fn_ok (K := ⟨K, Ts⟩) (m := b_moved_by) T.F_moved_by sc rfl rfl rfl fun cdv A outer s H E hr px tk po => ?_
  exact (ss_cons (ss_set (i := 3) sc.nd rfl (by first | exact Or.inl rfl | exact Or.inr rfl) (se_lst sa_nil))
  (ss_cons (ss_for po rfl (si_zip rfl (by rfl) T.b_zip (se_var rfl (pv 0)) (se_call rfl rfl px G_all_around (hr.mono (by decide)) (by rfl) T.g_all_around T.F_all_around.kp T.n_all_around (fun _ h => mFn_len h) (sa_cons (se_var rfl (pv 0)) sa_nil))) (sg_tup rfl rfl (sgs_cons (sg_name sc.nd rfl (by first | exact Or.inl rfl | exact Or.inr rfl)) (sgs_cons (sg_name sc.nd rfl (by first | exact Or.inl rfl | exact Or.inr rfl)) sgs_nil))) (ss_cons (ss_if (st_cmp op_ge ok_ge (se_var rfl (pv 4)) (se_op op_addU ok_add (se_var rfl (pv 5)) (se_var rfl (pv 2))) (nomark _)) (ss_one (ss_set (i := 4) sc.nd rfl (by first | exact Or.inl rfl | exact Or.inr rfl) (se_op op_addU ok_add (se_var rfl (pv 4)) (se_var rfl (pv 1))))) ss_nil)
  (ss_one (ss_app (i := 3) (R := [4]) rfl (pe_bm PySem.F.plainAttrs_list PySem.F.slot_list_append PySem.F.type_list_append mt_append (pv 3) (pa_cons (se_var rfl (pv 4)) pa_nil))))))
  (ss_one (ss_ret (se_callTy ok_tuple call_tuple_of (by rfl) T.b_tuple bt_tuple (sa_cons (se_var rfl (pv 3)) sa_nil))))))
theorem ok_undo_at (T : Txt K mg) (B : Tb T Ts base) : FnOk P w K mg base (L2.CX P w) 4 T.a_undo_at T.d_undo_at ["term", "place"] (spP ⟨K, Ts⟩ mg 2 m_undo_at) := by
  have G_moved_by := ok_moved_by (P := P) (w := w) (base := base) (Ts := Ts) T B
  have G_taker_of := ok_taker_of (P := P) (w := w) (base := base) (Ts := Ts) T B
  have sc := sc_undo_at
  refine fn_ok (K := ⟨K, Ts⟩) (m := b_undo_at) T.F_undo_at sc rfl rfl rfl fun cdv A outer s H E hr px tk po => ?_
  exact (ss_cons (ss_set (i := 2) sc.nd rfl (by first | exact Or.inl rfl | exact Or.inr rfl) (se_call rfl rfl px G_taker_of (hr.mono (by decide)) (by rfl) T.g_taker_of T.F_taker_of.kp T.n_taker_of (fun _ h => mFn_len h) (sa_cons (se_var rfl (pv 0)) (sa_cons (se_var rfl (pv 1)) sa_nil))))
  (ss_one (ss_ret (se_op op_addU ok_add (se_op op_addU ok_add (se_slice rfl (se_var rfl (pv 0)) so_none (so_some (se_var rfl (pv 1)))) (se_call rfl rfl px G_moved_by (hr.mono (by decide)) (by rfl) T.g_moved_by T.F_moved_by.kp T.n_moved_by (fun _ h => mFn_len h) (sa_cons (se_var rfl (pv 2)) (sa_cons (se_un un_neg ok_neg (se_c pe_int (fun _ _ => .int _))) (sa_cons (se_c pe_int (fun _ _ => .int _)) sa_nil))))) (se_slice rfl (se_var rfl (pv 0)) (so_some (se_op op_addU ok_add (se_op op_addU ok_add (se_var rfl (pv 1)) (se_c pe_int (fun _ _ => .int _))) (se_callB ok_len call_lenU (by rfl) T.b_len bt_len (sa_cons (se_var rfl (pv 2)) sa_nil)))) so_none)))))
theorem ok_undone (T : Txt K mg) (B : Tb T Ts base) : FnOk P w K mg base (L2.CX P w) 6 T.a_undone T.d_undone ["term", "place"] (spP ⟨K, Ts⟩ mg 2 m_undone) := by
  have G_look_opening := ok_look_opening (P := P) (w := w) (base := base) (Ts := Ts) T B
  have G_look_term := ok_look_term (P := P) (w := w) (base := base) (Ts := Ts) T B
  have G_undo_at := ok_undo_at (P := P) (w := w) (base := base) (Ts := Ts) T B
  have sc := sc_undone
  refine fn_ok (K := ⟨K, Ts⟩) (m := b_undone) T.F_undone sc rfl rfl rfl fun cdv A outer s H E hr px tk po => ?_
  exact (ss_cons (ss_expr (se_call rfl rfl px G_look_term (hr.mono (by decide)) (by rfl) T.g_look_term T.F_look_term.kp T.n_look_term (fun _ h => mFn_len h) (sa_cons (se_var rfl (pv 0)) sa_nil)))
  (ss_cons (ss_expr (se_call rfl rfl px G_look_opening (hr.mono (by decide)) (by rfl) T.g_look_opening T.F_look_opening.kp T.n_look_opening (fun _ h => mFn_len h) (sa_cons (se_var rfl (pv 0)) (sa_cons (se_var rfl (pv 1)) sa_nil))))
  (ss_one (ss_ret (se_call rfl rfl px G_undo_at (hr.mono (by decide)) (by rfl) T.g_undo_at T.F_undo_at.kp T.n_undo_at (fun _ h => mFn_len h) (sa_cons (se_var rfl (pv 0)) (sa_cons (se_var rfl (pv 1)) sa_nil)))))))
set_option maxHeartbeats 4000000 in
theorem ok_law_right (T : Txt K mg) (B : Tb T Ts base) : FnOk P w K mg base (L2.CX P w) 9 T.a_law_right T.d_law_right ["_law_term"] (spP ⟨K, Ts⟩ mg 1 m_law_right) := by
  have G_law_closed_again := ok_law_closed_again (P := P) (w := w) (base := base) (Ts := Ts) T B
  have G_law_openings := ok_law_openings (P := P) (w := w) (base := base) (Ts := Ts) T B
  have G_openings := ok_openings (P := P) (w := w) (base := base) (Ts := Ts) T B
  have G_undone := ok_undone (P := P) (w := w) (base := base) (Ts := Ts) T B
  have sc := sc_law_right
  refine fn_okC (K := ⟨K, Ts⟩) (m := b_law_right) T.C_law_right sc rfl rfl rfl fun A outer s H E hr px tk po => ?_
  exact (ss_cons (ss_set (i := 1) sc.nd rfl (by first | exact Or.inl rfl | exact Or.inr rfl) (se_call rfl rfl px G_law_openings (hr.mono (by decide)) (by rfl) T.g_law_openings T.F_law_openings.kp T.n_law_openings (fun _ h => mFn_len h) (sa_cons (se_var rfl (pv 0)) sa_nil)))
  (ss_cons (ss_set (i := 2) sc.nd rfl (by first | exact Or.inl rfl | exact Or.inr rfl) (se_call rfl rfl px G_openings (hr.mono (by decide)) (by rfl) T.g_openings T.F_openings.kp T.n_openings (fun _ h => mFn_len h) (sa_cons (se_var rfl (pv 0)) sa_nil)))
  (ss_cons (ss_if (PW.pt (sw_or (st_not (st_val (se_isi rfl (by rfl) T.b_isinstance (by rfl) T.b_list bt_list (se_var rfl (pv 2))))) (sw_or1 (st_cmp (op_neD hr.units) ok_ne (se_var rfl (pv 2)) (se_var rfl (pv 1)) (nomark _))))) (ss_one (ss_ret (se_c pe_bl (fun _ _ => .bl _)))) ss_nil)
  (ss_cons (ss_if (st_not (st_val (se_callB ok_all (cr_all rfl) (by rfl) T.b_all bt_all (sa_cons (se_comp (own := [("_law_place", 3)]) rfl rfl sc.nd (si_seq rfl (se_var rfl (pv 2))) (blkOk_by (own := [("_law_place", 3)]) (N := N_law_right) (sc := defScope s_law_right) (by decide +kernel)) (by decide) (fun _ _ _ _ _ => (sg_name sc.nd rfl (by first | exact Or.inl rfl | exact Or.inr rfl))) (fun _ _ _ _ _ => sts_nil) (fun _ _ _ _ _ => (se_and (se_isi rfl (by rfl) T.b_isinstance (by rfl) T.b_int bt_int (se_var rfl (pv 3))) (se_one (se_not (se_isi rfl (by rfl) T.b_isinstance (by rfl) T.b_bool bt_bool (se_var rfl (pv 3)))))))) sa_nil)))) (ss_one (ss_ret (se_c pe_bl (fun _ _ => .bl _)))) ss_nil)
  (ss_cons (ss_app (i := 2) (R := []) rfl (pe_bm PySem.F.plainAttrs_list PySem.F.slot_list_append PySem.F.type_list_append mt_append (pv 2) (pa_cons (se_c pe_int (fun _ _ => .int _)) pa_nil)))
  (ss_cons (ss_for po rfl (si_range1 (by rfl) T.b_range (se_callB ok_len call_lenU (by rfl) T.b_len bt_len (sa_cons (se_var rfl (pv 0)) sa_nil))) (sg_name sc.nd rfl (by first | exact Or.inl rfl | exact Or.inr rfl)) (ss_one (ss_if (st_cmp op_in_seq (ok_in false) (se_var rfl (pv 3)) (se_var rfl (pv 1)) (by rfl)) (ss_cons (ss_set (i := 4) sc.nd rfl (by first | exact Or.inl rfl | exact Or.inr rfl) (se_call rfl rfl px G_undone (hr.mono (by decide)) (by rfl) T.g_undone T.F_undone.kp T.n_undone (fun _ h => mFn_len h) (sa_cons (se_var rfl (pv 0)) (sa_cons (se_var rfl (pv 3)) sa_nil))))
  (ss_one (ss_if (PW.pt (sw_or (st_not (st_val (se_isi rfl (by rfl) T.b_isinstance (by rfl) T.b_tuple bt_tuple (se_var rfl (pv 4))))) (sw_or1 (st_cmp (op_neD hr.units) ok_ne (se_var rfl (pv 4)) (se_call rfl rfl px G_law_closed_again (hr.mono (by decide)) (by rfl) T.g_law_closed_again T.F_law_closed_again.kp T.n_law_closed_again (fun _ h => mFn_len h) (sa_cons (se_var rfl (pv 0)) (sa_cons (se_var rfl (pv 3)) sa_nil))) (nomark _))))) (ss_one (ss_ret (se_c pe_bl (fun _ _ => .bl _)))) ss_nil))) (ss_one (ss_if (st_cmp (op_neD hr.units) ok_ne (se_how (k := 6) (("_law_right" : Str) ++ ".<locals>.") rfl rfl rfl howS_lf (by rfl) T.g_law_how T.F_law_how T.n_law_how sc_law_how rfl (Or.inl rfl) (fun _ => gv_law_how T rfl rfl rfl rfl rfl (hr.mono (by decide)) _ _) B.b_law_right rfl B.m_law_right B.u_law_right (hr.mono (by decide)) (LamX.lamS_by (sc := defScope s_law_right) (by decide +kernel)) rfl (fun _ _ _ _ _ => rfl) (fun A outer s H E f c_ hr px => (se_call rfl rfl px G_undone (hr.mono (by decide)) (by rfl) T.g_undone T.F_undone.kp T.n_undone (fun _ h => mFn_len h) (sa_cons (se_var rfl (pv 0)) (sa_cons (se_var rfl (pv 3)) sa_nil))))) (se_c pe_str (fun _ _ => .str _)) (nomark _)) (ss_one (ss_ret (se_c pe_bl (fun _ _ => .bl _)))) ss_nil)))))
  (ss_one (ss_ret (se_cmp (op_eqD hr.units) ok_eq (se_call rfl rfl px G_openings (hr.mono (by decide)) (by rfl) T.g_openings T.F_openings.kp T.n_openings (fun _ h => mFn_len h) (sa_cons (se_var rfl (pv 0)) sa_nil)) (se_var rfl (pv 1)) (nomark _))))))))))
theorem ok_law_term_by (T : Txt K mg) (B : Tb T Ts base) : FnOk P w K mg base (L2.CX P w) 3 T.a_law_term_by T.d_law_term_by ["_law_cell", "_law_most"] (spP ⟨K, Ts⟩ mg 2 m_law_term_by) := by
  have G_law_numbers := ok_law_numbers (P := P) (w := w) (base := base) (Ts := Ts) T B
  have sc := sc_law_term_by
  refine fn_ok (K := ⟨K, Ts⟩) (m := b_law_term_by) T.F_law_term_by sc rfl rfl rfl fun cdv A outer s H E hr px tk po => ?_
  exact (ss_cons (ss_set (i := 2) sc.nd rfl (by first | exact Or.inl rfl | exact Or.inr rfl) (se_call rfl rfl px G_law_numbers (hr.mono (by decide)) (by rfl) T.g_law_numbers T.F_law_numbers.kp T.n_law_numbers (fun _ h => mFn_len h) (sa_cons (se_var rfl (pv 0)) (sa_cons (se_op op_addU ok_add (se_lst (sa_cons (se_var rfl (pv 1)) sa_nil)) (se_op op_mulU ok_mul (se_lst (sa_cons (se_c pe_int (fun _ _ => .int _)) (sa_cons (se_c pe_int (fun _ _ => .int _)) sa_nil))) (se_var rfl (pv 1)))) sa_nil))))
  (ss_cons (ss_set (i := 3) sc.nd rfl (by first | exact Or.inl rfl | exact Or.inr rfl) (se_op op_addU ok_add (se_ix ix_seq ok_ix (se_var rfl (pv 2)) (se_c pe_int (fun _ _ => .int _)) (fun _ _ => rfl)) (se_c pe_int (fun _ _ => .int _))))
  (ss_cons (ss_set (i := 4) sc.nd rfl (by first | exact Or.inl rfl | exact Or.inr rfl) (se_lst sa_nil))
  (ss_cons (ss_set (i := 5) sc.nd rfl (by first | exact Or.inl rfl | exact Or.inr rfl) (se_lst (sa_cons (se_c pe_int (fun _ _ => .int _)) sa_nil)))
  (ss_cons (ss_for po rfl (si_range1 (by rfl) T.b_range (se_var rfl (pv 3))) (sg_name sc.nd rfl (by first | exact Or.inl rfl | exact Or.inr rfl)) (ss_one (ss_if (st_cmp op_gt ok_gt (se_callB ok_len call_lenU (by rfl) T.b_len bt_len (sa_cons (se_var rfl (pv 5)) sa_nil)) (se_c pe_int (fun _ _ => .int _)) (nomark _)) (ss_cons (ss_setPop rfl (pe_bm0 PySem.F.plainAttrs_list PySem.F.slot_list_pop PySem.F.type_list_pop mt_pop (pv 5)) sc.nd (j := 7) rfl (by first | exact Or.inl rfl | exact Or.inr rfl))
  (ss_cons (ss_set (i := 8) sc.nd rfl (by first | exact Or.inl rfl | exact Or.inr rfl) (se_op op_sub ok_sub (se_op op_sub ok_sub (se_op op_sub ok_sub (se_var rfl (pv 3)) (se_callB ok_len call_lenU (by rfl) T.b_len bt_len (sa_cons (se_var rfl (pv 4)) sa_nil))) (se_callB ok_len call_lenU (by rfl) T.b_len bt_len (sa_cons (se_var rfl (pv 5)) sa_nil))) (se_c pe_int (fun _ _ => .int _))))
  (ss_cons (ss_set (i := 9) sc.nd rfl (by first | exact Or.inl rfl | exact Or.inr rfl) (se_ix ix_seq ok_ix (se_lst (sa_cons (se_c pe_int (fun _ _ => .int _)) (sa_cons (se_un un_neg ok_neg (se_c pe_int (fun _ _ => .int _))) (sa_cons (se_un un_neg ok_neg (se_c pe_int (fun _ _ => .int _))) (sa_cons (se_un un_neg ok_neg (se_c pe_int (fun _ _ => .int _))) (sa_cons (se_un un_neg ok_neg (se_c pe_int (fun _ _ => .int _))) (sa_cons (se_un un_neg ok_neg (se_c pe_int (fun _ _ => .int _))) sa_nil))))))) (se_ix ix_seq ok_ix (se_var rfl (pv 2)) (se_op op_addU ok_add (se_c pe_int (fun _ _ => .int _)) (se_op op_mulU ok_mul (se_c pe_int (fun _ _ => .int _)) (se_var rfl (pv 6)))) (fun _ _ => rfl)) (fun _ _ => rfl)))
  (ss_one (ss_if (PW.pt (sw_and (st_cmp (op_eqD hr.units) ok_eq (se_var rfl (pv 9)) (se_un un_neg ok_neg (se_c pe_int (fun _ _ => .int _))) (nomark _)) (sw_and1 (st_cmp op_gt ok_gt (se_var rfl (pv 8)) (se_c pe_int (fun _ _ => .int _)) (nomark _))))) (ss_cons (ss_app (i := 4) (R := []) rfl (pe_bm PySem.F.plainAttrs_list PySem.F.slot_list_append PySem.F.type_list_append mt_append (pv 4) (pa_cons (se_un un_neg ok_neg (se_c pe_int (fun _ _ => .int _))) pa_nil)))
  (ss_one (ss_app (i := 5) (R := ([7] ++ [])) rfl (pe_bm PySem.F.plainAttrs_list PySem.F.slot_list_append PySem.F.type_list_append mt_append (pv 5) (pa_cons (se_op op_addU ok_add (se_var rfl (pv 7)) (se_c pe_int (fun _ _ => .int _))) pa_nil))))) (ss_one (ss_if (PW.pt (sw_and (st_cmp (op_eqD hr.units) ok_eq (se_var rfl (pv 9)) (se_un un_neg ok_neg (se_c pe_int (fun _ _ => .int _))) (nomark _)) (sw_and1 (st_cmp op_gt ok_gt (se_var rfl (pv 8)) (se_c pe_int (fun _ _ => .int _)) (nomark _))))) (ss_cons (ss_app (i := 4) (R := []) rfl (pe_bm PySem.F.plainAttrs_list PySem.F.slot_list_append PySem.F.type_list_append mt_append (pv 4) (pa_cons (se_un un_neg ok_neg (se_c pe_int (fun _ _ => .int _))) pa_nil)))
  (ss_one (ss_aug (i := 5) sc.nd rfl (by first | exact Or.inl rfl | exact Or.inr rfl) (se_lst (sa_cons (se_var rfl (pv 7)) (sa_cons (se_var rfl (pv 7)) sa_nil)))))) (ss_one (ss_app (i := 4) (R := (([2] ++ ([] ++ ([] ++ [6]))) ++ ([7] ++ []))) rfl (pe_bm PySem.F.plainAttrs_list PySem.F.slot_list_append PySem.F.type_list_append mt_append (pv 4) (pa_cons (se_op op_mod ok_mod (se_ix ix_seq ok_ix (se_var rfl (pv 2)) (se_op op_addU ok_add (se_c pe_int (fun _ _ => .int _)) (se_op op_mulU ok_mul (se_c pe_int (fun _ _ => .int _)) (se_var rfl (pv 6)))) (fun _ _ => rfl)) (se_op op_addU ok_add (se_var rfl (pv 7)) (se_c pe_int (fun _ _ => .int _)))) pa_nil))))))))))) ss_nil)))
  (ss_one (ss_ret (se_callTy ok_tuple call_tuple_of (by rfl) T.b_tuple bt_tuple (sa_cons (se_var rfl (pv 4)) sa_nil)))))))))
set_option maxHeartbeats 4000000 in
theorem ok_law (T : Txt K mg) (B : Tb T Ts base) : FnOk P w K mg base (L2.CX P w) 12 T.a_law T.d_law ["_law_script"] (spP ⟨K, Ts⟩ mg 1 m_law) := by
  have G_law_cell_at := ok_law_cell_at (P := P) (w := w) (base := base) (Ts := Ts) T B
  have G_law_numbers := ok_law_numbers (P := P) (w := w) (base := base) (Ts := Ts) T B
  have G_law_opened := ok_law_opened (P := P) (w := w) (base := base) (Ts := Ts) T B
  have G_law_right := ok_law_right (P := P) (w := w) (base := base) (Ts := Ts) T B
  have G_law_term_by := ok_law_term_by (P := P) (w := w) (base := base) (Ts := Ts) T B
  have G_openings := ok_openings (P := P) (w := w) (base := base) (Ts := Ts) T B
  have G_undone := ok_undone (P := P) (w := w) (base := base) (Ts := Ts) T B
  have sc := sc_law
  refine fn_okC (K := ⟨K, Ts⟩) (m := b_law) T.C_law sc rfl rfl rfl fun A outer s H E hr px tk po => ?_
  exact (ss_cons (ss_set (i := 1) sc.nd rfl (by first | exact Or.inl rfl | exact Or.inr rfl) (se_call rfl rfl px G_law_numbers (hr.mono (by decide)) (by rfl) T.g_law_numbers T.F_law_numbers.kp T.n_law_numbers (fun _ h => mFn_len h) (sa_cons (se_call rfl rfl px G_law_cell_at (hr.mono (by decide)) (by rfl) T.g_law_cell_at T.F_law_cell_at.kp T.n_law_cell_at (fun _ h => mFn_len h) (sa_cons (se_var rfl (pv 0)) (sa_cons (se_c pe_int (fun _ _ => .int _)) sa_nil))) (sa_cons (se_op op_addU ok_add (se_op op_addU ok_add (se_lst (sa_cons (se_c pe_int (fun _ _ => .int _)) (sa_cons (se_c pe_int (fun _ _ => .int _)) sa_nil))) (se_op op_mulU ok_mul (se_lst (sa_cons (se_c pe_int (fun _ _ => .int _)) sa_nil)) (se_c pe_int (fun _ _ => .int _)))) (se_lst (sa_cons (se_c pe_int (fun _ _ => .int _)) (sa_cons (se_c pe_int (fun _ _ => .int _)) (sa_cons (se_c pe_int (fun _ _ => .int _)) sa_nil))))) sa_nil))))
  (ss_cons (ss_set (i := 2) sc.nd rfl (by first | exact Or.inl rfl | exact Or.inr rfl) (se_call rfl rfl px G_law_term_by (hr.mono (by decide)) (by rfl) T.g_law_term_by T.F_law_term_by.kp T.n_law_term_by (fun _ h => mFn_len h) (sa_cons (se_call rfl rfl px G_law_cell_at (hr.mono (by decide)) (by rfl) T.g_law_cell_at T.F_law_cell_at.kp T.n_law_cell_at (fun _ h => mFn_len h) (sa_cons (se_var rfl (pv 0)) (sa_cons (se_c pe_int (fun _ _ => .int _)) sa_nil))) (sa_cons (se_ix ix_seq ok_ix (se_lst (sa_cons (se_c pe_int (fun _ _ => .int _)) (sa_cons (se_c pe_int (fun _ _ => .int _)) (sa_cons (se_c pe_int (fun _ _ => .int _)) (sa_cons (se_c pe_int (fun _ _ => .int _)) (sa_cons (se_c pe_int (fun _ _ => .int _)) (sa_cons (se_c pe_int (fun _ _ => .int _)) (sa_cons (se_c pe_int (fun _ _ => .int _)) (sa_cons (se_c pe_int (fun _ _ => .int _)) sa_nil))))))))) (se_ix ix_seq ok_ix (se_var rfl (pv 1)) (se_c pe_int (fun _ _ => .int _)) (fun _ _ => rfl)) (fun _ _ => rfl)) sa_nil))))
  (ss_cons (ss_if (st_not (st_val (se_call rfl rfl px G_law_right (hr.mono (by decide)) (by rfl) T.g_law_right T.F_law_right.kp T.n_law_right (fun _ h => mFn_len h) (sa_cons (se_var rfl (pv 2)) sa_nil)))) (ss_one (ss_ret (se_c pe_bl (fun _ _ => .bl _)))) ss_nil)
  (ss_cons (ss_for po rfl (si_seq rfl (se_slice rfl (se_var rfl (pv 1)) (so_some (se_c pe_int (fun _ _ => .int _))) (so_some (se_op op_addU ok_add (se_c pe_int (fun _ _ => .int _)) (se_ix ix_seq ok_ix (se_var rfl (pv 1)) (se_c pe_int (fun _ _ => .int _)) (fun _ _ => rfl)))))) (sg_name sc.nd rfl (by first | exact Or.inl rfl | exact Or.inr rfl)) (ss_one (ss_set (i := 2) sc.nd rfl (by first | exact Or.inl rfl | exact Or.inr rfl) (se_call rfl rfl px G_law_opened (hr.mono (by decide)) (by rfl) T.g_law_opened T.F_law_opened.kp T.n_law_opened (fun _ h => mFn_len h) (sa_cons (se_var rfl (pv 2)) (sa_cons (se_op op_mod ok_mod (se_var rfl (pv 3)) (se_callB ok_len call_lenU (by rfl) T.b_len bt_len (sa_cons (se_var rfl (pv 2)) sa_nil))) sa_nil))))))
  (ss_cons (ss_if (st_not (st_val (se_call rfl rfl px G_law_right (hr.mono (by decide)) (by rfl) T.g_law_right T.F_law_right.kp T.n_law_right (fun _ h => mFn_len h) (sa_cons (se_var rfl (pv 2)) sa_nil)))) (ss_one (ss_ret (se_c pe_bl (fun _ _ => .bl _)))) ss_nil)
  (ss_cons (ss_set (i := 4) sc.nd rfl (by first | exact Or.inl rfl | exact Or.inr rfl) (se_op op_mod ok_mod (se_ix ix_seq ok_ix (se_var rfl (pv 1)) (se_c pe_int (fun _ _ => .int _)) (fun _ _ => rfl)) (se_callB ok_len call_lenU (by rfl) T.b_len bt_len (sa_cons (se_var rfl (pv 2)) sa_nil))))
  (ss_cons (ss_set (i := 5) sc.nd rfl (by first | exact Or.inl rfl | exact Or.inr rfl) (se_op op_addU ok_add (se_op op_addU ok_add (se_slice rfl (se_var rfl (pv 2)) so_none (so_some (se_var rfl (pv 4)))) (se_tup (sa_cons (se_op op_addU ok_add (se_op op_addU ok_add (se_ix ix_seq ok_ix (se_var rfl (pv 2)) (se_var rfl (pv 4)) (fun _ _ => rfl)) (se_c pe_int (fun _ _ => .int _))) (se_ix ix_seq ok_ix (se_var rfl (pv 1)) (se_c pe_int (fun _ _ => .int _)) (fun _ _ => rfl))) sa_nil))) (se_slice rfl (se_var rfl (pv 2)) (so_some (se_op op_addU ok_add (se_var rfl (pv 4)) (se_c pe_int (fun _ _ => .int _)))) so_none)))
  (ss_cons (ss_if (st_cmp op_lt ok_lt (se_ix ix_seq ok_ix (se_var rfl (pv 2)) (se_var rfl (pv 4)) (fun _ _ => rfl)) (se_c pe_int (fun _ _ => .int _)) (nomark _)) (ss_one (ss_set (i := 5) sc.nd rfl (by first | exact Or.inl rfl | exact Or.inr rfl) (se_op op_addU ok_add (se_op op_addU ok_add (se_slice rfl (se_var rfl (pv 2)) so_none (so_some (se_var rfl (pv 4)))) (se_tup (sa_cons (se_un un_neg ok_neg (se_c pe_int (fun _ _ => .int _))) sa_nil))) (se_slice rfl (se_var rfl (pv 2)) (so_some (se_var rfl (pv 4))) so_none)))) ss_nil)
  (ss_cons (ss_if (st_not (st_val (se_call rfl rfl px G_law_right (hr.mono (by decide)) (by rfl) T.g_law_right T.F_law_right.kp T.n_law_right (fun _ h => mFn_len h) (sa_cons (se_var rfl (pv 5)) sa_nil)))) (ss_one (ss_ret (se_c pe_bl (fun _ _ => .bl _)))) ss_nil)
  (ss_cons (ss_set (i := 6) sc.nd rfl (by first | exact Or.inl rfl | exact Or.inr rfl) (se_ix ix_seq ok_ix (se_var rfl (pv 1)) (se_c pe_int (fun _ _ => .int _)) (fun _ _ => rfl)))
  (ss_cons (ss_for po rfl (si_seq rfl (se_tup (sa_cons (se_op op_sub ok_sub (se_un un_neg ok_neg (se_c pe_int (fun _ _ => .int _))) (se_var rfl (pv 6))) (sa_cons (se_op op_addU ok_add (se_callB ok_len call_lenU (by rfl) T.b_len bt_len (sa_cons (se_var rfl (pv 2)) sa_nil)) (se_var rfl (pv 6))) (sa_cons (se_c pe_bl (fun _ _ => .bl _)) (sa_cons (se_c pe_non (fun _ _ => .non)) (sa_cons (se_c pe_str (fun _ _ => .str _)) sa_nil))))))) (sg_name sc.nd rfl (by first | exact Or.inl rfl | exact Or.inr rfl)) (ss_one (ss_if (st_cmp (op_neD hr.units) ok_ne (se_how (k := 6) (("law" : Str) ++ ".<locals>.") rfl rfl rfl howS_lf (by rfl) T.g_law_how T.F_law_how T.n_law_how sc_law_how rfl (Or.inl rfl) (fun _ => gv_law_how T rfl rfl rfl rfl rfl (hr.mono (by decide)) _ _) B.b_law rfl B.m_law B.u_law (hr.mono (by decide)) (LamX.lamS_by (sc := defScope s_law) (by decide +kernel)) rfl (fun _ _ _ _ _ => rfl) (fun A outer s H E f c_ hr px => (se_call rfl rfl px G_undone (hr.mono (by decide)) (by rfl) T.g_undone T.F_undone.kp T.n_undone (fun _ h => mFn_len h) (sa_cons (se_var rfl (pv 2)) (sa_cons (se_var rfl (pv 7)) sa_nil))))) (se_c pe_str (fun _ _ => .str _)) (nomark _)) (ss_one (ss_ret (se_c pe_bl (fun _ _ => .bl _)))) ss_nil)))
  (ss_cons (ss_for po rfl (si_seq rfl (se_tup (sa_cons (se_callTy ok_listU (call_listU rfl) (by rfl) T.b_list bt_list (sa_cons (se_var rfl (pv 2)) sa_nil)) (sa_cons (se_op op_addU ok_add (se_var rfl (pv 2)) (se_tup (sa_cons (se_c pe_int (fun _ _ => .int _)) sa_nil))) (sa_cons (se_c pe_non (fun _ _ => .non)) (sa_cons (se_op op_addU ok_add (se_op op_addU ok_add (se_slice rfl (se_var rfl (pv 2)) so_none (so_some (se_var rfl (pv 4)))) (se_tup (sa_cons (se_c pe_bl (fun _ _ => .bl _)) sa_nil))) (se_slice rfl (se_var rfl (pv 2)) (so_some (se_op op_addU ok_add (se_var rfl (pv 4)) (se_c pe_int (fun _ _ => .int _)))) so_none)) sa_nil)))))) (sg_name sc.nd rfl (by first | exact Or.inl rfl | exact Or.inr rfl)) (ss_cons (ss_if (st_cmp (op_neD hr.units) ok_ne (se_how (k := 6) (("law" : Str) ++ ".<locals>.") rfl rfl rfl howS_lf (by rfl) T.g_law_how T.F_law_how T.n_law_how sc_law_how rfl (Or.inl rfl) (fun _ => gv_law_how T rfl rfl rfl rfl rfl (hr.mono (by decide)) _ _) B.b_law rfl B.m_law B.u_law (hr.mono (by decide)) (LamX.lamS_by (sc := defScope s_law) (by decide +kernel)) rfl (fun _ _ _ _ _ => rfl) (fun A outer s H E f c_ hr px => (se_call rfl rfl px G_undone (hr.mono (by decide)) (by rfl) T.g_undone T.F_undone.kp T.n_undone (fun _ h => mFn_len h) (sa_cons (se_var rfl (pv 8)) (sa_cons (se_un un_neg ok_neg (se_c pe_int (fun _ _ => .int _))) sa_nil))))) (se_c pe_str (fun _ _ => .str _)) (nomark _)) (ss_one (ss_ret (se_c pe_bl (fun _ _ => .bl _)))) ss_nil)
  (ss_one (ss_if (st_cmp (op_neD hr.units) ok_ne (se_how (k := 6) (("law" : Str) ++ ".<locals>.") rfl rfl rfl howS_lf (by rfl) T.g_law_how T.F_law_how T.n_law_how sc_law_how rfl (Or.inl rfl) (fun _ => gv_law_how T rfl rfl rfl rfl rfl (hr.mono (by decide)) _ _) B.b_law rfl B.m_law B.u_law (hr.mono (by decide)) (LamX.lamS_by (sc := defScope s_law) (by decide +kernel)) rfl (fun _ _ _ _ _ => rfl) (fun A outer s H E f c_ hr px => (se_call rfl rfl px G_openings (hr.mono (by decide)) (by rfl) T.g_openings T.F_openings.kp T.n_openings (fun _ h => mFn_len h) (sa_cons (se_var rfl (pv 8)) sa_nil)))) (se_c pe_str (fun _ _ => .str _)) (nomark _)) (ss_one (ss_ret (se_c pe_bl (fun _ _ => .bl _)))) ss_nil))))
  (ss_great (i := 9) (j := 7) rfl sc.nd rfl (by first | exact Or.inl rfl | exact Or.inr rfl) rfl (by first | exact Or.inl rfl | exact Or.inr rfl) (se_op op_addU ok_add (se_op op_addU ok_add (se_tup (sa_cons (se_un un_neg ok_neg (se_c pe_int (fun _ _ => .int _))) sa_nil)) (se_op op_mulU ok_mul (se_tup (sa_cons (se_un un_neg ok_neg (se_c pe_int (fun _ _ => .int _))) sa_nil)) (se_op op_addU ok_add (se_op op_sub ok_sub (se_c pe_int (fun _ _ => .int _)) (se_callB ok_len call_lenU (by rfl) T.b_len bt_len (sa_cons (se_var rfl (pv 2)) sa_nil))) (se_var rfl (pv 6))))) (se_tup (sa_cons (se_un un_neg ok_neg (se_c pe_int (fun _ _ => .int _))) (sa_cons (se_un un_neg ok_neg (se_c pe_int (fun _ _ => .int _))) (sa_cons (se_c pe_int (fun _ _ => .int _)) (sa_cons (se_c pe_int (fun _ _ => .int _)) sa_nil)))))) (se_var rfl (pv 2)) (st_cmp (op_neD hr.units) ok_ne (se_how (k := 6) (("law" : Str) ++ ".<locals>.") rfl rfl rfl howS_lf (by rfl) T.g_law_how T.F_law_how T.n_law_how sc_law_how rfl (Or.inl rfl) (fun _ => gv_law_how T rfl rfl rfl rfl rfl (hr.mono (by decide)) _ _) B.b_law rfl B.m_law B.u_law (hr.mono (by decide)) (LamX.lamS_by (sc := defScope s_law) (by decide +kernel)) rfl (fun _ _ _ _ _ => rfl) (fun A outer s H E f c_ hr px => (se_call rfl rfl px G_openings (hr.mono (by decide)) (by rfl) T.g_openings T.F_openings.kp T.n_openings (fun _ h => mFn_len h) (sa_cons (se_var rfl (pv 9)) sa_nil)))) (se_c pe_str (fun _ _ => .str _)) (nomark _)) (pv 9) pe_bl pe_int pe_int
  (ss_one (ss_ret (se_and (se_cmp (op_eqD hr.units) ok_eq (se_call rfl rfl px G_undone (hr.mono (by decide)) (by rfl) T.g_undone T.F_undone.kp T.n_undone (fun _ h => mFn_len h) (sa_cons (se_var rfl (pv 9)) (sa_cons (se_var rfl (pv 7)) sa_nil))) (se_op op_addU ok_add (se_op op_addU ok_add (se_slice rfl (se_var rfl (pv 9)) so_none (so_some (se_var rfl (pv 7)))) (se_tup (sa_cons (se_c pe_int (fun _ _ => .int _)) sa_nil))) (se_slice rfl (se_var rfl (pv 9)) (so_some (se_op op_addU ok_add (se_var rfl (pv 7)) (se_c pe_int (fun _ _ => .int _)))) so_none)) (nomark _)) (se_one (se_call rfl rfl px G_law_right (hr.mono (by decide)) (by rfl) T.g_law_right T.F_law_right.kp T.n_law_right (fun _ h => mFn_len h) (sa_cons (se_var rfl (pv 2)) sa_nil)))))))))))))))))))
end
end Law

namespace Law
open PySem PySem.Spec PyProof.Rows L2 S
set_option maxHeartbeats 0 in
theorem txt_mk {K : PySem.W.Frag} {h : Heap} {mg : Str → Option Value} (X : K.In h) (G : h.Ns mainGlobals mg)
    {f0 : Addr} {od0 an0 : Option Addr} {sl0 : Array (Option Value)} {oc0 kV0 dc0 pm0 ct0 : Value} {cd0 : Value}
    {f1 : Addr} {od1 an1 : Option Addr} {sl1 : Array (Option Value)} {oc1 kV1 dc1 pm1 ct1 : Value} {cd1 : Value}
    {f2 : Addr} {od2 an2 : Option Addr} {sl2 : Array (Option Value)} {oc2 kV2 dc2 pm2 ct2 : Value} {cd2 : Value}
    {f3 : Addr} {od3 an3 : Option Addr} {sl3 : Array (Option Value)} {oc3 kV3 dc3 pm3 ct3 : Value} {cd3 : Value}
    {f4 : Addr} {od4 an4 : Option Addr} {sl4 : Array (Option Value)} {oc4 kV4 dc4 pm4 ct4 : Value} {cd4 : Value}
    {f5 : Addr} {od5 an5 : Option Addr} {sl5 : Array (Option Value)} {oc5 kV5 dc5 pm5 ct5 : Value} {cd5 : Value}
    {f6 : Addr} {od6 an6 : Option Addr} {sl6 : Array (Option Value)} {oc6 kV6 dc6 pm6 ct6 : Value} {cd6 : Value}
    {f7 : Addr} {od7 an7 : Option Addr} {sl7 : Array (Option Value)} {oc7 kV7 dc7 pm7 ct7 : Value} {cd7 : Value}
    {f8 : Addr} {od8 an8 : Option Addr} {sl8 : Array (Option Value)} {oc8 kV8 dc8 pm8 ct8 : Value} {cd8 : Value}
    {f9 : Addr} {od9 an9 : Option Addr} {sl9 : Array (Option Value)} {oc9 kV9 dc9 pm9 ct9 : Value} {cd9 : Value}
    {f10 : Addr} {od10 an10 : Option Addr} {sl10 : Array (Option Value)} {oc10 kV10 dc10 pm10 ct10 : Value} {cd10 : Value}
    {f11 : Addr} {od11 an11 : Option Addr} {sl11 : Array (Option Value)} {oc11 kV11 dc11 pm11 ct11 : Value} {cd11 : Value}
    {f12 : Addr} {od12 an12 : Option Addr} {sl12 : Array (Option Value)} {oc12 kV12 dc12 pm12 ct12 : Value} {cd12 : Value}
    {f13 : Addr} {od13 an13 : Option Addr} {sl13 : Array (Option Value)} {oc13 kV13 dc13 pm13 ct13 : Value} {cd13 : Value}
    {f14 : Addr} {od14 an14 : Option Addr} {sl14 : Array (Option Value)} {oc14 kV14 dc14 pm14 ct14 : Value} {cd14 : Value}
    {f15 : Addr} {od15 an15 : Option Addr} {sl15 : Array (Option Value)} {oc15 kV15 dc15 pm15 ct15 : Value} {cd15 : Value}
    {f16 : Addr} {od16 an16 : Option Addr} {sl16 : Array (Option Value)} {oc16 kV16 dc16 pm16 ct16 : Value} {cd16 : Value}
    {f17 : Addr} {od17 an17 : Option Addr} {sl17 : Array (Option Value)} {oc17 kV17 dc17 pm17 ct17 : Value} {cd17 : Value}
    {f18 : Addr} {od18 an18 : Option Addr} {sl18 : Array (Option Value)} {oc18 kV18 dc18 pm18 ct18 : Value} {cd18 : Value}
    {f19 : Addr} {od19 an19 : Option Addr} {sl19 : Array (Option Value)} {oc19 kV19 dc19 pm19 ct19 : Value} {cd19 : Value}
    {f20 : Addr} {od20 an20 : Option Addr} {sl20 : Array (Option Value)} {oc20 kV20 dc20 pm20 ct20 : Value} {cd20 : Value}
    {f21 : Addr} {od21 an21 : Option Addr} {sl21 : Array (Option Value)} {oc21 kV21 dc21 pm21 ct21 : Value} {cd21 : Value}
    {f22 : Addr} {od22 an22 : Option Addr} {sl22 : Array (Option Value)} {oc22 kV22 dc22 pm22 ct22 : Value} {cd22 : Value}
    {f23 : Addr} {od23 an23 : Option Addr} {sl23 : Array (Option Value)} {oc23 kV23 dc23 pm23 ct23 : Value} {cd23 : Value}
    {f24 : Addr} {od24 an24 : Option Addr} {sl24 : Array (Option Value)} {oc24 kV24 dc24 pm24 ct24 : Value} {cd24 : Value}
    {f25 : Addr} {od25 an25 : Option Addr} {sl25 : Array (Option Value)} {oc25 kV25 dc25 pm25 ct25 : Value} {cd25 : Value}
    {f26 : Addr} {od26 an26 : Option Addr} {sl26 : Array (Option Value)} {oc26 kV26 dc26 pm26 ct26 : Value} {cd26 : Value}
    {f27 : Addr} {od27 an27 : Option Addr} {sl27 : Array (Option Value)} {oc27 kV27 dc27 pm27 ct27 : Value} {cd27 : Value}
    {f28 : Addr} {od28 an28 : Option Addr} {sl28 : Array (Option Value)} {oc28 kV28 dc28 pm28 ct28 : Value}
    {lc28 lp28 : Addr} {le28 : Value} {ld28 : Option Addr} {lv28 : Array Value} {ls28 : Array (Option Value)}
    {f29 : Addr} {od29 an29 : Option Addr} {sl29 : Array (Option Value)} {oc29 kV29 dc29 pm29 ct29 : Value} {cd29 : Value}
    {f30 : Addr} {od30 an30 : Option Addr} {sl30 : Array (Option Value)} {oc30 kV30 dc30 pm30 ct30 : Value}
    {lc30 lp30 : Addr} {le30 : Value} {ld30 : Option Addr} {lv30 : Array Value} {ls30 : Array (Option Value)}
    {f31 : Addr} {od31 an31 : Option Addr} {sl31 : Array (Option Value)} {oc31 kV31 dc31 pm31 ct31 : Value} {cd31 : Value}
    {f32 : Addr} {od32 an32 : Option Addr} {sl32 : Array (Option Value)} {oc32 kV32 dc32 pm32 ct32 : Value} {cd32 : Value}
    {tc0 : Tok}
    {tc1 : Tok}
    {tc2 : Tok}
    {tc3 : Tok}
    {tc4 : Tok}
    {E0 : Addr}
    {E1 : Addr}
    {E2 : Addr}
    {E3 : Addr}
    {E4 : Addr}
    {E5 : Addr}
    {E6 : Addr}
    {E7 : Addr}
    {E8 : Addr}
    {E9 : Addr}
    {E10 : Addr}
    {E11 : Addr}
    {E12 : Addr}
    {E13 : Addr}
    {E14 : Addr}
    {E15 : Addr}
    {E16 : Addr}
    {E17 : Addr}
    (a0 : PySem.W.nsIn K mainGlobals "_law_cell_at" = some (some (.ref f0)))
    (l0 : K.lookup f0 = some ⟨oc0, od0, .func (PySem.W.fnOf "_law_cell_at" "_law_cell_at" (defArgs s_law_cell_at) (defBody s_law_cell_at) (defScope s_law_cell_at) .none kV0 dc0 pm0 an0 cd0 ct0), sl0⟩)
    (c0 : PySem.W.codeIn K cd0 "_law_cell_at" = true)
    (k0 : PySem.W.keepIn K (.ref f0) = true)
    (a1 : PySem.W.nsIn K mainGlobals "_law_mixed" = some (some (.ref f1)))
    (l1 : K.lookup f1 = some ⟨oc1, od1, .func (PySem.W.fnOf "_law_mixed" "_law_mixed" (defArgs s_law_mixed) (defBody s_law_mixed) (defScope s_law_mixed) .none kV1 dc1 pm1 an1 cd1 ct1), sl1⟩)
    (c1 : PySem.W.codeIn K cd1 "_law_mixed" = true)
    (k1 : PySem.W.keepIn K (.ref f1) = true)
    (a2 : PySem.W.nsIn K mainGlobals "_law_numbers" = some (some (.ref f2)))
    (l2 : K.lookup f2 = some ⟨oc2, od2, .func (PySem.W.fnOf "_law_numbers" "_law_numbers" (defArgs s_law_numbers) (defBody s_law_numbers) (defScope s_law_numbers) .none kV2 dc2 pm2 an2 cd2 ct2), sl2⟩)
    (c2 : PySem.W.codeIn K cd2 "_law_numbers" = true)
    (k2 : PySem.W.keepIn K (.ref f2) = true)
    (a3 : PySem.W.nsIn K mainGlobals "_law_ends" = some (some (.ref f3)))
    (l3 : K.lookup f3 = some ⟨oc3, od3, .func (PySem.W.fnOf "_law_ends" "_law_ends" (defArgs s_law_ends) (defBody s_law_ends) (defScope s_law_ends) .none kV3 dc3 pm3 an3 cd3 ct3), sl3⟩)
    (c3 : PySem.W.codeIn K cd3 "_law_ends" = true)
    (k3 : PySem.W.keepIn K (.ref f3) = true)
    (a4 : PySem.W.nsIn K mainGlobals "_law_about" = some (some (.ref f4)))
    (l4 : K.lookup f4 = some ⟨oc4, od4, .func (PySem.W.fnOf "_law_about" "_law_about" (defArgs s_law_about) (defBody s_law_about) (defScope s_law_about) .none kV4 dc4 pm4 an4 cd4 ct4), sl4⟩)
    (c4 : PySem.W.codeIn K cd4 "_law_about" = true)
    (k4 : PySem.W.keepIn K (.ref f4) = true)
    (a5 : PySem.W.nsIn K mainGlobals "_law_moved" = some (some (.ref f5)))
    (l5 : K.lookup f5 = some ⟨oc5, od5, .func (PySem.W.fnOf "_law_moved" "_law_moved" (defArgs s_law_moved) (defBody s_law_moved) (defScope s_law_moved) .none kV5 dc5 pm5 an5 cd5 ct5), sl5⟩)
    (c5 : PySem.W.codeIn K cd5 "_law_moved" = true)
    (k5 : PySem.W.keepIn K (.ref f5) = true)
    (a6 : PySem.W.nsIn K mainGlobals "_law_opened" = some (some (.ref f6)))
    (l6 : K.lookup f6 = some ⟨oc6, od6, .func (PySem.W.fnOf "_law_opened" "_law_opened" (defArgs s_law_opened) (defBody s_law_opened) (defScope s_law_opened) .none kV6 dc6 pm6 an6 cd6 ct6), sl6⟩)
    (c6 : PySem.W.codeIn K cd6 "_law_opened" = true)
    (k6 : PySem.W.keepIn K (.ref f6) = true)
    (a7 : PySem.W.nsIn K mainGlobals "_law_closed_again" = some (some (.ref f7)))
    (l7 : K.lookup f7 = some ⟨oc7, od7, .func (PySem.W.fnOf "_law_closed_again" "_law_closed_again" (defArgs s_law_closed_again) (defBody s_law_closed_again) (defScope s_law_closed_again) .none kV7 dc7 pm7 an7 cd7 ct7), sl7⟩)
    (c7 : PySem.W.codeIn K cd7 "_law_closed_again" = true)
    (k7 : PySem.W.keepIn K (.ref f7) = true)
    (a8 : PySem.W.nsIn K mainGlobals "_law_openings" = some (some (.ref f8)))
    (l8 : K.lookup f8 = some ⟨oc8, od8, .func (PySem.W.fnOf "_law_openings" "_law_openings" (defArgs s_law_openings) (defBody s_law_openings) (defScope s_law_openings) .none kV8 dc8 pm8 an8 cd8 ct8), sl8⟩)
    (c8 : PySem.W.codeIn K cd8 "_law_openings" = true)
    (k8 : PySem.W.keepIn K (.ref f8) = true)
    (a9 : PySem.W.nsIn K mainGlobals "all_ends" = some (some (.ref f9)))
    (l9 : K.lookup f9 = some ⟨oc9, od9, .func (PySem.W.fnOf "all_ends" "all_ends" (defArgs s_all_ends) (defBody s_all_ends) (defScope s_all_ends) .none kV9 dc9 pm9 an9 cd9 ct9), sl9⟩)
    (c9 : PySem.W.codeIn K cd9 "all_ends" = true)
    (k9 : PySem.W.keepIn K (.ref f9) = true)
    (a10 : PySem.W.nsIn K mainGlobals "all_around" = some (some (.ref f10)))
    (l10 : K.lookup f10 = some ⟨oc10, od10, .func (PySem.W.fnOf "all_around" "all_around" (defArgs s_all_around) (defBody s_all_around) (defScope s_all_around) .none kV10 dc10 pm10 an10 cd10 ct10), sl10⟩)
    (c10 : PySem.W.codeIn K cd10 "all_around" = true)
    (k10 : PySem.W.keepIn K (.ref f10) = true)
    (a11 : PySem.W.nsIn K mainGlobals "means_none" = some (some (.ref f11)))
    (l11 : K.lookup f11 = some ⟨oc11, od11, .func (PySem.W.fnOf "means_none" "means_none" (defArgs s_means_none) (defBody s_means_none) (defScope s_means_none) .none kV11 dc11 pm11 an11 cd11 ct11), sl11⟩)
    (c11 : PySem.W.codeIn K cd11 "means_none" = true)
    (k11 : PySem.W.keepIn K (.ref f11) = true)
    (a12 : PySem.W.nsIn K mainGlobals "more_due" = some (some (.ref f12)))
    (l12 : K.lookup f12 = some ⟨oc12, od12, .func (PySem.W.fnOf "more_due" "more_due" (defArgs s_more_due) (defBody s_more_due) (defScope s_more_due) .none kV12 dc12 pm12 an12 cd12 ct12), sl12⟩)
    (c12 : PySem.W.codeIn K cd12 "more_due" = true)
    (k12 : PySem.W.keepIn K (.ref f12) = true)
    (a13 : PySem.W.nsIn K mainGlobals "part_end" = some (some (.ref f13)))
    (l13 : K.lookup f13 = some ⟨oc13, od13, .func (PySem.W.fnOf "part_end" "part_end" (defArgs s_part_end) (defBody s_part_end) (defScope s_part_end) .none kV13 dc13 pm13 an13 cd13 ct13), sl13⟩)
    (c13 : PySem.W.codeIn K cd13 "part_end" = true)
    (k13 : PySem.W.keepIn K (.ref f13) = true)
    (a14 : PySem.W.nsIn K mainGlobals "taker_of" = some (some (.ref f14)))
    (l14 : K.lookup f14 = some ⟨oc14, od14, .func (PySem.W.fnOf "taker_of" "taker_of" (defArgs s_taker_of) (defBody s_taker_of) (defScope s_taker_of) .none kV14 dc14 pm14 an14 cd14 ct14), sl14⟩)
    (c14 : PySem.W.codeIn K cd14 "taker_of" = true)
    (k14 : PySem.W.keepIn K (.ref f14) = true)
    (a15 : PySem.W.nsIn K mainGlobals "is_opening" = some (some (.ref f15)))
    (l15 : K.lookup f15 = some ⟨oc15, od15, .func (PySem.W.fnOf "is_opening" "is_opening" (defArgs s_is_opening) (defBody s_is_opening) (defScope s_is_opening) .none kV15 dc15 pm15 an15 cd15 ct15), sl15⟩)
    (c15 : PySem.W.codeIn K cd15 "is_opening" = true)
    (k15 : PySem.W.keepIn K (.ref f15) = true)
    (a16 : PySem.W.nsIn K mainGlobals "all_openings" = some (some (.ref f16)))
    (l16 : K.lookup f16 = some ⟨oc16, od16, .func (PySem.W.fnOf "all_openings" "all_openings" (defArgs s_all_openings) (defBody s_all_openings) (defScope s_all_openings) .none kV16 dc16 pm16 an16 cd16 ct16), sl16⟩)
    (c16 : PySem.W.codeIn K cd16 "all_openings" = true)
    (k16 : PySem.W.keepIn K (.ref f16) = true)
    (a17 : PySem.W.nsIn K mainGlobals "is_read" = some (some (.ref f17)))
    (l17 : K.lookup f17 = some ⟨oc17, od17, .func (PySem.W.fnOf "is_read" "is_read" (defArgs s_is_read) (defBody s_is_read) (defScope s_is_read) .none kV17 dc17 pm17 an17 cd17 ct17), sl17⟩)
    (c17 : PySem.W.codeIn K cd17 "is_read" = true)
    (k17 : PySem.W.keepIn K (.ref f17) = true)
    (a18 : PySem.W.nsIn K mainGlobals "is_whole" = some (some (.ref f18)))
    (l18 : K.lookup f18 = some ⟨oc18, od18, .func (PySem.W.fnOf "is_whole" "is_whole" (defArgs s_is_whole) (defBody s_is_whole) (defScope s_is_whole) .none kV18 dc18 pm18 an18 cd18 ct18), sl18⟩)
    (c18 : PySem.W.codeIn K cd18 "is_whole" = true)
    (k18 : PySem.W.keepIn K (.ref f18) = true)
    (a19 : PySem.W.nsIn K mainGlobals "is_term" = some (some (.ref f19)))
    (l19 : K.lookup f19 = some ⟨oc19, od19, .func (PySem.W.fnOf "is_term" "is_term" (defArgs s_is_term) (defBody s_is_term) (defScope s_is_term) .none kV19 dc19 pm19 an19 cd19 ct19), sl19⟩)
    (c19 : PySem.W.codeIn K cd19 "is_term" = true)
    (k19 : PySem.W.keepIn K (.ref f19) = true)
    (a20 : PySem.W.nsIn K mainGlobals "look_term" = some (some (.ref f20)))
    (l20 : K.lookup f20 = some ⟨oc20, od20, .func (PySem.W.fnOf "look_term" "look_term" (defArgs s_look_term) (defBody s_look_term) (defScope s_look_term) .none kV20 dc20 pm20 an20 cd20 ct20), sl20⟩)
    (c20 : PySem.W.codeIn K cd20 "look_term" = true)
    (k20 : PySem.W.keepIn K (.ref f20) = true)
    (a21 : PySem.W.nsIn K mainGlobals "look_small" = some (some (.ref f21)))
    (l21 : K.lookup f21 = some ⟨oc21, od21, .func (PySem.W.fnOf "look_small" "look_small" (defArgs s_look_small) (defBody s_look_small) (defScope s_look_small) .none kV21 dc21 pm21 an21 cd21 ct21), sl21⟩)
    (c21 : PySem.W.codeIn K cd21 "look_small" = true)
    (k21 : PySem.W.keepIn K (.ref f21) = true)
    (a22 : PySem.W.nsIn K mainGlobals "openings" = some (some (.ref f22)))
    (l22 : K.lookup f22 = some ⟨oc22, od22, .func (PySem.W.fnOf "openings" "openings" (defArgs s_openings) (defBody s_openings) (defScope s_openings) .none kV22 dc22 pm22 an22 cd22 ct22), sl22⟩)
    (c22 : PySem.W.codeIn K cd22 "openings" = true)
    (k22 : PySem.W.keepIn K (.ref f22) = true)
    (a23 : PySem.W.nsIn K mainGlobals "look_place" = some (some (.ref f23)))
    (l23 : K.lookup f23 = some ⟨oc23, od23, .func (PySem.W.fnOf "look_place" "look_place" (defArgs s_look_place) (defBody s_look_place) (defScope s_look_place) .none kV23 dc23 pm23 an23 cd23 ct23), sl23⟩)
    (c23 : PySem.W.codeIn K cd23 "look_place" = true)
    (k23 : PySem.W.keepIn K (.ref f23) = true)
    (a24 : PySem.W.nsIn K mainGlobals "look_opening" = some (some (.ref f24)))
    (l24 : K.lookup f24 = some ⟨oc24, od24, .func (PySem.W.fnOf "look_opening" "look_opening" (defArgs s_look_opening) (defBody s_look_opening) (defScope s_look_opening) .none kV24 dc24 pm24 an24 cd24 ct24), sl24⟩)
    (c24 : PySem.W.codeIn K cd24 "look_opening" = true)
    (k24 : PySem.W.keepIn K (.ref f24) = true)
    (a25 : PySem.W.nsIn K mainGlobals "moved_by" = some (some (.ref f25)))
    (l25 : K.lookup f25 = some ⟨oc25, od25, .func (PySem.W.fnOf "moved_by" "moved_by" (defArgs s_moved_by) (defBody s_moved_by) (defScope s_moved_by) .none kV25 dc25 pm25 an25 cd25 ct25), sl25⟩)
    (c25 : PySem.W.codeIn K cd25 "moved_by" = true)
    (k25 : PySem.W.keepIn K (.ref f25) = true)
    (a26 : PySem.W.nsIn K mainGlobals "undo_at" = some (some (.ref f26)))
    (l26 : K.lookup f26 = some ⟨oc26, od26, .func (PySem.W.fnOf "undo_at" "undo_at" (defArgs s_undo_at) (defBody s_undo_at) (defScope s_undo_at) .none kV26 dc26 pm26 an26 cd26 ct26), sl26⟩)
    (c26 : PySem.W.codeIn K cd26 "undo_at" = true)
    (k26 : PySem.W.keepIn K (.ref f26) = true)
    (a27 : PySem.W.nsIn K mainGlobals "undone" = some (some (.ref f27)))
    (l27 : K.lookup f27 = some ⟨oc27, od27, .func (PySem.W.fnOf "undone" "undone" (defArgs s_undone) (defBody s_undone) (defScope s_undone) .none kV27 dc27 pm27 an27 cd27 ct27), sl27⟩)
    (c27 : PySem.W.codeIn K cd27 "undone" = true)
    (k27 : PySem.W.keepIn K (.ref f27) = true)
    (a28 : PySem.W.nsIn K mainGlobals "_law_right" = some (some (.ref f28)))
    (l28 : K.lookup f28 = some ⟨oc28, od28, .func (PySem.W.fnOf "_law_right" "_law_right" (defArgs s_law_right) (defBody s_law_right) (defScope s_law_right) .none kV28 dc28 pm28 an28 (.ref lc28) ct28), sl28⟩)
    (c28 : PySem.W.codeIn K (.ref lc28) "_law_right" = true)
    (k28 : PySem.W.keepIn K (.ref f28) = true)
    (lt28 : K.lookup lc28 = some ⟨le28, ld28, .fields lv28, ls28⟩)
    (lq28 : lv28[11]? = some (.ref lp28))
    (ln28 : K.lookup lp28 = none)
    (a29 : PySem.W.nsIn K mainGlobals "_law_term_by" = some (some (.ref f29)))
    (l29 : K.lookup f29 = some ⟨oc29, od29, .func (PySem.W.fnOf "_law_term_by" "_law_term_by" (defArgs s_law_term_by) (defBody s_law_term_by) (defScope s_law_term_by) .none kV29 dc29 pm29 an29 cd29 ct29), sl29⟩)
    (c29 : PySem.W.codeIn K cd29 "_law_term_by" = true)
    (k29 : PySem.W.keepIn K (.ref f29) = true)
    (a30 : PySem.W.nsIn K mainGlobals "law" = some (some (.ref f30)))
    (l30 : K.lookup f30 = some ⟨oc30, od30, .func (PySem.W.fnOf "law" "law" (defArgs s_law) (defBody s_law) (defScope s_law) .none kV30 dc30 pm30 an30 (.ref lc30) ct30), sl30⟩)
    (c30 : PySem.W.codeIn K (.ref lc30) "law" = true)
    (k30 : PySem.W.keepIn K (.ref f30) = true)
    (lt30 : K.lookup lc30 = some ⟨le30, ld30, .fields lv30, ls30⟩)
    (lq30 : lv30[11]? = some (.ref lp30))
    (ln30 : K.lookup lp30 = none)
    (a31 : PySem.W.nsIn K mainGlobals "_law_alone" = some (some (.ref f31)))
    (l31 : K.lookup f31 = some ⟨oc31, od31, .func (PySem.W.fnOf "_law_alone" "_law_alone" (defArgs s_law_alone) (defBody s_law_alone) (defScope s_law_alone) .none kV31 dc31 pm31 an31 cd31 ct31), sl31⟩)
    (c31 : PySem.W.codeIn K cd31 "_law_alone" = true)
    (k31 : PySem.W.keepIn K (.ref f31) = true)
    (a32 : PySem.W.nsIn K mainGlobals "_law_how" = some (some (.ref f32)))
    (l32 : K.lookup f32 = some ⟨oc32, od32, .func (PySem.W.fnOf "_law_how" "_law_how" (defArgs s_law_how) (defBody s_law_how) (defScope s_law_how) .none kV32 dc32 pm32 an32 cd32 ct32), sl32⟩)
    (c32 : PySem.W.codeIn K cd32 "_law_how" = true)
    (k32 : PySem.W.keepIn K (.ref f32) = true)
    (v0 : PySem.W.nsIn K mainGlobals "FAR" = some (some (.int (9999) tc0)))
    (v1 : PySem.W.nsIn K mainGlobals "GIFT" = some (some (.int (-2) tc1)))
    (v2 : PySem.W.nsIn K mainGlobals "MOST" = some (some (.int (20000) tc2)))
    (v3 : PySem.W.nsIn K mainGlobals "SMALL" = some (some (.int (200) tc3)))
    (v4 : PySem.W.nsIn K mainGlobals "TURN" = some (some (.int (-1) tc4)))
    (ea0 : PySem.W.nsIn K mainGlobals "NoOpening" = some (some (.ref E0)))
    (ee0 : PySem.W.typeIn K (.ref E0) = some (.type "type"))
    (ed0 : PySem.W.subIn K (.ref E0) (.type "BaseException") = some true)
    (eb0 : PySem.W.excIn K E0 [.type "ValueError", .type "Exception", .type "BaseException", .type "object"] "ValueError.__new__" = true)
    (ec0 : PySem.W.keepIn K (.ref E0) = true)
    (eh0 : PySem.W.hasDictIn K E0 = true)
    (ea1 : PySem.W.nsIn K mainGlobals "NoPlace" = some (some (.ref E1)))
    (ee1 : PySem.W.typeIn K (.ref E1) = some (.type "type"))
    (ed1 : PySem.W.subIn K (.ref E1) (.type "BaseException") = some true)
    (eb1 : PySem.W.excIn K E1 [.type "ValueError", .type "Exception", .type "BaseException", .type "object"] "ValueError.__new__" = true)
    (ec1 : PySem.W.keepIn K (.ref E1) = true)
    (eh1 : PySem.W.hasDictIn K E1 = true)
    (ea2 : PySem.W.nsIn K mainGlobals "NoSize" = some (some (.ref E2)))
    (ee2 : PySem.W.typeIn K (.ref E2) = some (.type "type"))
    (ed2 : PySem.W.subIn K (.ref E2) (.type "BaseException") = some true)
    (eb2 : PySem.W.excIn K E2 [.type "ValueError", .type "Exception", .type "BaseException", .type "object"] "ValueError.__new__" = true)
    (ec2 : PySem.W.keepIn K (.ref E2) = true)
    (eh2 : PySem.W.hasDictIn K E2 = true)
    (ea3 : PySem.W.nsIn K mainGlobals "NoTerm" = some (some (.ref E3)))
    (ee3 : PySem.W.typeIn K (.ref E3) = some (.type "type"))
    (ed3 : PySem.W.subIn K (.ref E3) (.type "BaseException") = some true)
    (eb3 : PySem.W.excIn K E3 [.type "ValueError", .type "Exception", .type "BaseException", .type "object"] "ValueError.__new__" = true)
    (ec3 : PySem.W.keepIn K (.ref E3) = true)
    (eh3 : PySem.W.hasDictIn K E3 = true)
    (ea4 : PySem.W.nsIn K mainGlobals "NoStep" = some (some (.ref E4)))
    (ee4 : PySem.W.typeIn K (.ref E4) = some (.type "type"))
    (eh4 : PySem.W.hasDictIn K E4 = true)
    (ea5 : PySem.W.nsIn K mainGlobals "NoRow" = some (some (.ref E5)))
    (ee5 : PySem.W.typeIn K (.ref E5) = some (.type "type"))
    (eh5 : PySem.W.hasDictIn K E5 = true)
    (ea6 : PySem.W.nsIn K mainGlobals "InOrder" = some (some (.ref E6)))
    (ee6 : PySem.W.typeIn K (.ref E6) = some (.type "type"))
    (eh6 : PySem.W.hasDictIn K E6 = true)
    (ea7 : PySem.W.nsIn K mainGlobals "TooMuch" = some (some (.ref E7)))
    (ee7 : PySem.W.typeIn K (.ref E7) = some (.type "type"))
    (eh7 : PySem.W.hasDictIn K E7 = true)
    (ea8 : PySem.W.nsIn K mainGlobals "NoTree" = some (some (.ref E8)))
    (ee8 : PySem.W.typeIn K (.ref E8) = some (.type "type"))
    (eh8 : PySem.W.hasDictIn K E8 = true)
    (ea9 : PySem.W.nsIn K mainGlobals "NoLast" = some (some (.ref E9)))
    (ee9 : PySem.W.typeIn K (.ref E9) = some (.type "type"))
    (eh9 : PySem.W.hasDictIn K E9 = true)
    (ea10 : PySem.W.nsIn K mainGlobals "Alike" = some (some (.ref E10)))
    (ee10 : PySem.W.typeIn K (.ref E10) = some (.type "type"))
    (eh10 : PySem.W.hasDictIn K E10 = true)
    (ea11 : PySem.W.nsIn K mainGlobals "NotAlike" = some (some (.ref E11)))
    (ee11 : PySem.W.typeIn K (.ref E11) = some (.type "type"))
    (eh11 : PySem.W.hasDictIn K E11 = true)
    (ea12 : PySem.W.nsIn K mainGlobals "NoHole" = some (some (.ref E12)))
    (ee12 : PySem.W.typeIn K (.ref E12) = some (.type "type"))
    (eh12 : PySem.W.hasDictIn K E12 = true)
    (ea13 : PySem.W.nsIn K mainGlobals "NoForms" = some (some (.ref E13)))
    (ee13 : PySem.W.typeIn K (.ref E13) = some (.type "type"))
    (eh13 : PySem.W.hasDictIn K E13 = true)
    (ea14 : PySem.W.nsIn K mainGlobals "NoLink" = some (some (.ref E14)))
    (ee14 : PySem.W.typeIn K (.ref E14) = some (.type "type"))
    (eh14 : PySem.W.hasDictIn K E14 = true)
    (ea15 : PySem.W.nsIn K mainGlobals "NoText" = some (some (.ref E15)))
    (ee15 : PySem.W.typeIn K (.ref E15) = some (.type "type"))
    (eh15 : PySem.W.hasDictIn K E15 = true)
    (ea16 : PySem.W.nsIn K mainGlobals "NoName" = some (some (.ref E16)))
    (ee16 : PySem.W.typeIn K (.ref E16) = some (.type "type"))
    (eh16 : PySem.W.hasDictIn K E16 = true)
    (ea17 : PySem.W.nsIn K mainGlobals "Wrong" = some (some (.ref E17)))
    (ee17 : PySem.W.typeIn K (.ref E17) = some (.type "type"))
    (ed17 : PySem.W.subIn K (.ref E17) (.type "BaseException") = some true)
    (eh17 : PySem.W.hasDictIn K E17 = true)
    (xn : PySem.W.specialIn K (.builtin "object.__class__") "__get__" = some (some (.builtin "getset_descriptor.__get__")))
    (xt : PySem.W.takesIn K (.builtin "object.__class__") = some true)
    (xg3 : PySem.W.findIn K (.ref E3) "__getattribute__" = some (some (.builtin "BaseException.__getattribute__")))
    (xk3 : PySem.W.findIn K (.ref E3) "__getattr__" = some none)
    (xa3 : PySem.W.findIn K (.ref E3) "__class__" = some (some (.builtin "object.__class__")))
    (xm3 : PySem.W.mroIn K E3 (.type "object") = some true)
    (xq3_3 : PySem.W.subIn K (.ref E3) (.ref E3) = some true)
    (xq3_1 : PySem.W.subIn K (.ref E3) (.ref E1) = some false)
    (xq3_4 : PySem.W.subIn K (.ref E3) (.ref E4) = some false)
    (xq3_5 : PySem.W.subIn K (.ref E3) (.ref E5) = some false)
    (xq3_6 : PySem.W.subIn K (.ref E3) (.ref E6) = some false)
    (xq3_2 : PySem.W.subIn K (.ref E3) (.ref E2) = some false)
    (xq3_7 : PySem.W.subIn K (.ref E3) (.ref E7) = some false)
    (xq3_0 : PySem.W.subIn K (.ref E3) (.ref E0) = some false)
    (xq3_8 : PySem.W.subIn K (.ref E3) (.ref E8) = some false)
    (xq3_9 : PySem.W.subIn K (.ref E3) (.ref E9) = some false)
    (xq3_10 : PySem.W.subIn K (.ref E3) (.ref E10) = some false)
    (xq3_11 : PySem.W.subIn K (.ref E3) (.ref E11) = some false)
    (xq3_12 : PySem.W.subIn K (.ref E3) (.ref E12) = some false)
    (xq3_13 : PySem.W.subIn K (.ref E3) (.ref E13) = some false)
    (xq3_14 : PySem.W.subIn K (.ref E3) (.ref E14) = some false)
    (xq3_15 : PySem.W.subIn K (.ref E3) (.ref E15) = some false)
    (xq3_16 : PySem.W.subIn K (.ref E3) (.ref E16) = some false)
    (xv3 : PySem.W.subIn K (.ref E3) (.type "ValueError") = some true)
    (xw3 : PySem.W.subIn K (.ref E3) (.ref E17) = some true)
    (xg1 : PySem.W.findIn K (.ref E1) "__getattribute__" = some (some (.builtin "BaseException.__getattribute__")))
    (xk1 : PySem.W.findIn K (.ref E1) "__getattr__" = some none)
    (xa1 : PySem.W.findIn K (.ref E1) "__class__" = some (some (.builtin "object.__class__")))
    (xm1 : PySem.W.mroIn K E1 (.type "object") = some true)
    (xq1_3 : PySem.W.subIn K (.ref E1) (.ref E3) = some false)
    (xq1_1 : PySem.W.subIn K (.ref E1) (.ref E1) = some true)
    (xq1_4 : PySem.W.subIn K (.ref E1) (.ref E4) = some false)
    (xq1_5 : PySem.W.subIn K (.ref E1) (.ref E5) = some false)
    (xq1_6 : PySem.W.subIn K (.ref E1) (.ref E6) = some false)
    (xq1_2 : PySem.W.subIn K (.ref E1) (.ref E2) = some false)
    (xq1_7 : PySem.W.subIn K (.ref E1) (.ref E7) = some false)
    (xq1_0 : PySem.W.subIn K (.ref E1) (.ref E0) = some false)
    (xq1_8 : PySem.W.subIn K (.ref E1) (.ref E8) = some false)
    (xq1_9 : PySem.W.subIn K (.ref E1) (.ref E9) = some false)
    (xq1_10 : PySem.W.subIn K (.ref E1) (.ref E10) = some false)
    (xq1_11 : PySem.W.subIn K (.ref E1) (.ref E11) = some false)
    (xq1_12 : PySem.W.subIn K (.ref E1) (.ref E12) = some false)
    (xq1_13 : PySem.W.subIn K (.ref E1) (.ref E13) = some false)
    (xq1_14 : PySem.W.subIn K (.ref E1) (.ref E14) = some false)
    (xq1_15 : PySem.W.subIn K (.ref E1) (.ref E15) = some false)
    (xq1_16 : PySem.W.subIn K (.ref E1) (.ref E16) = some false)
    (xv1 : PySem.W.subIn K (.ref E1) (.type "ValueError") = some true)
    (xw1 : PySem.W.subIn K (.ref E1) (.ref E17) = some true)
    (xg2 : PySem.W.findIn K (.ref E2) "__getattribute__" = some (some (.builtin "BaseException.__getattribute__")))
    (xk2 : PySem.W.findIn K (.ref E2) "__getattr__" = some none)
    (xa2 : PySem.W.findIn K (.ref E2) "__class__" = some (some (.builtin "object.__class__")))
    (xm2 : PySem.W.mroIn K E2 (.type "object") = some true)
    (xq2_3 : PySem.W.subIn K (.ref E2) (.ref E3) = some false)
    (xq2_1 : PySem.W.subIn K (.ref E2) (.ref E1) = some false)
    (xq2_4 : PySem.W.subIn K (.ref E2) (.ref E4) = some false)
    (xq2_5 : PySem.W.subIn K (.ref E2) (.ref E5) = some false)
    (xq2_6 : PySem.W.subIn K (.ref E2) (.ref E6) = some false)
    (xq2_2 : PySem.W.subIn K (.ref E2) (.ref E2) = some true)
    (xq2_7 : PySem.W.subIn K (.ref E2) (.ref E7) = some false)
    (xq2_0 : PySem.W.subIn K (.ref E2) (.ref E0) = some false)
    (xq2_8 : PySem.W.subIn K (.ref E2) (.ref E8) = some false)
    (xq2_9 : PySem.W.subIn K (.ref E2) (.ref E9) = some false)
    (xq2_10 : PySem.W.subIn K (.ref E2) (.ref E10) = some false)
    (xq2_11 : PySem.W.subIn K (.ref E2) (.ref E11) = some false)
    (xq2_12 : PySem.W.subIn K (.ref E2) (.ref E12) = some false)
    (xq2_13 : PySem.W.subIn K (.ref E2) (.ref E13) = some false)
    (xq2_14 : PySem.W.subIn K (.ref E2) (.ref E14) = some false)
    (xq2_15 : PySem.W.subIn K (.ref E2) (.ref E15) = some false)
    (xq2_16 : PySem.W.subIn K (.ref E2) (.ref E16) = some false)
    (xv2 : PySem.W.subIn K (.ref E2) (.type "ValueError") = some true)
    (xw2 : PySem.W.subIn K (.ref E2) (.ref E17) = some true)
    (xg0 : PySem.W.findIn K (.ref E0) "__getattribute__" = some (some (.builtin "BaseException.__getattribute__")))
    (xk0 : PySem.W.findIn K (.ref E0) "__getattr__" = some none)
    (xa0 : PySem.W.findIn K (.ref E0) "__class__" = some (some (.builtin "object.__class__")))
    (xm0 : PySem.W.mroIn K E0 (.type "object") = some true)
    (xq0_3 : PySem.W.subIn K (.ref E0) (.ref E3) = some false)
    (xq0_1 : PySem.W.subIn K (.ref E0) (.ref E1) = some false)
    (xq0_4 : PySem.W.subIn K (.ref E0) (.ref E4) = some false)
    (xq0_5 : PySem.W.subIn K (.ref E0) (.ref E5) = some false)
    (xq0_6 : PySem.W.subIn K (.ref E0) (.ref E6) = some false)
    (xq0_2 : PySem.W.subIn K (.ref E0) (.ref E2) = some false)
    (xq0_7 : PySem.W.subIn K (.ref E0) (.ref E7) = some false)
    (xq0_0 : PySem.W.subIn K (.ref E0) (.ref E0) = some true)
    (xq0_8 : PySem.W.subIn K (.ref E0) (.ref E8) = some false)
    (xq0_9 : PySem.W.subIn K (.ref E0) (.ref E9) = some false)
    (xq0_10 : PySem.W.subIn K (.ref E0) (.ref E10) = some false)
    (xq0_11 : PySem.W.subIn K (.ref E0) (.ref E11) = some false)
    (xq0_12 : PySem.W.subIn K (.ref E0) (.ref E12) = some false)
    (xq0_13 : PySem.W.subIn K (.ref E0) (.ref E13) = some false)
    (xq0_14 : PySem.W.subIn K (.ref E0) (.ref E14) = some false)
    (xq0_15 : PySem.W.subIn K (.ref E0) (.ref E15) = some false)
    (xq0_16 : PySem.W.subIn K (.ref E0) (.ref E16) = some false)
    (xv0 : PySem.W.subIn K (.ref E0) (.type "ValueError") = some true)
    (xw0 : PySem.W.subIn K (.ref E0) (.ref E17) = some true)
    (z0 : PySem.W.nsIn K mainGlobals "ValueError" = some none)
    (z1 : PySem.W.nsIn K mainGlobals "all" = some none)
    (z2 : PySem.W.nsIn K mainGlobals "bool" = some none)
    (z3 : PySem.W.nsIn K mainGlobals "enumerate" = some none)
    (z4 : PySem.W.nsIn K mainGlobals "int" = some none)
    (z5 : PySem.W.nsIn K mainGlobals "isinstance" = some none)
    (z6 : PySem.W.nsIn K mainGlobals "len" = some none)
    (z7 : PySem.W.nsIn K mainGlobals "list" = some none)
    (z8 : PySem.W.nsIn K mainGlobals "range" = some none)
    (z9 : PySem.W.nsIn K mainGlobals "sum" = some none)
    (z10 : PySem.W.nsIn K mainGlobals "tuple" = some none)
    (z11 : PySem.W.nsIn K mainGlobals "zip" = some none)
    : ∃ T : Txt K mg, T.a_law = f30 ∧ T.d_law = PySem.W.fnOf "law" "law" (defArgs s_law) (defBody s_law) (defScope s_law) .none kV30 dc30 pm30 an30 (.ref lc30) ct30 ∧ T.c_law_right = lc28 ∧ T.p_law_right = lp28 ∧ T.c_law = lc30 ∧ T.p_law = lp30 := ⟨{
    a_law_cell_at := f0
    d_law_cell_at := PySem.W.fnOf "_law_cell_at" "_law_cell_at" (defArgs s_law_cell_at) (defBody s_law_cell_at) (defScope s_law_cell_at) .none kV0 dc0 pm0 an0 cd0 ct0
    F_law_cell_at := fun_mk (st := s_law_cell_at) l0 c0 k0
    g_law_cell_at := PySem.W.mg_of X G a0
    n_law_cell_at := (fun_mk (st := s_law_cell_at) l0 c0 k0).binds (ps := ["_law_script", "_law_k"]) fun _ _ _ _ _ _ us hl => match us, hl with | [_, _], _ => rfl
    a_law_mixed := f1
    d_law_mixed := PySem.W.fnOf "_law_mixed" "_law_mixed" (defArgs s_law_mixed) (defBody s_law_mixed) (defScope s_law_mixed) .none kV1 dc1 pm1 an1 cd1 ct1
    F_law_mixed := fun_mk (st := s_law_mixed) l1 c1 k1
    g_law_mixed := PySem.W.mg_of X G a1
    n_law_mixed := (fun_mk (st := s_law_mixed) l1 c1 k1).binds (ps := ["_law_cell", "_law_k"]) fun _ _ _ _ _ _ us hl => match us, hl with | [_, _], _ => rfl
    a_law_numbers := f2
    d_law_numbers := PySem.W.fnOf "_law_numbers" "_law_numbers" (defArgs s_law_numbers) (defBody s_law_numbers) (defScope s_law_numbers) .none kV2 dc2 pm2 an2 cd2 ct2
    F_law_numbers := fun_mk (st := s_law_numbers) l2 c2 k2
    g_law_numbers := PySem.W.mg_of X G a2
    n_law_numbers := (fun_mk (st := s_law_numbers) l2 c2 k2).binds (ps := ["_law_cell", "_law_sizes"]) fun _ _ _ _ _ _ us hl => match us, hl with | [_, _], _ => rfl
    a_law_ends := f3
    d_law_ends := PySem.W.fnOf "_law_ends" "_law_ends" (defArgs s_law_ends) (defBody s_law_ends) (defScope s_law_ends) .none kV3 dc3 pm3 an3 cd3 ct3
    F_law_ends := fun_mk (st := s_law_ends) l3 c3 k3
    g_law_ends := PySem.W.mg_of X G a3
    n_law_ends := (fun_mk (st := s_law_ends) l3 c3 k3).binds (ps := ["_law_term"]) fun _ _ _ _ _ _ us hl => match us, hl with | [_], _ => rfl
    a_law_about := f4
    d_law_about := PySem.W.fnOf "_law_about" "_law_about" (defArgs s_law_about) (defBody s_law_about) (defScope s_law_about) .none kV4 dc4 pm4 an4 cd4 ct4
    F_law_about := fun_mk (st := s_law_about) l4 c4 k4
    g_law_about := PySem.W.mg_of X G a4
    n_law_about := (fun_mk (st := s_law_about) l4 c4 k4).binds (ps := ["_law_term"]) fun _ _ _ _ _ _ us hl => match us, hl with | [_], _ => rfl
    a_law_moved := f5
    d_law_moved := PySem.W.fnOf "_law_moved" "_law_moved" (defArgs s_law_moved) (defBody s_law_moved) (defScope s_law_moved) .none kV5 dc5 pm5 an5 cd5 ct5
    F_law_moved := fun_mk (st := s_law_moved) l5 c5 k5
    g_law_moved := PySem.W.mg_of X G a5
    n_law_moved := (fun_mk (st := s_law_moved) l5 c5 k5).binds (ps := ["_law_term", "_law_many"]) fun _ _ _ _ _ _ us hl => match us, hl with | [_, _], _ => rfl
    a_law_opened := f6
    d_law_opened := PySem.W.fnOf "_law_opened" "_law_opened" (defArgs s_law_opened) (defBody s_law_opened) (defScope s_law_opened) .none kV6 dc6 pm6 an6 cd6 ct6
    F_law_opened := fun_mk (st := s_law_opened) l6 c6 k6
    g_law_opened := PySem.W.mg_of X G a6
    n_law_opened := (fun_mk (st := s_law_opened) l6 c6 k6).binds (ps := ["_law_term", "_law_place"]) fun _ _ _ _ _ _ us hl => match us, hl with | [_, _], _ => rfl
    a_law_closed_again := f7
    d_law_closed_again := PySem.W.fnOf "_law_closed_again" "_law_closed_again" (defArgs s_law_closed_again) (defBody s_law_closed_again) (defScope s_law_closed_again) .none kV7 dc7 pm7 an7 cd7 ct7
    F_law_closed_again := fun_mk (st := s_law_closed_again) l7 c7 k7
    g_law_closed_again := PySem.W.mg_of X G a7
    n_law_closed_again := (fun_mk (st := s_law_closed_again) l7 c7 k7).binds (ps := ["_law_term", "_law_place"]) fun _ _ _ _ _ _ us hl => match us, hl with | [_, _], _ => rfl
    a_law_openings := f8
    d_law_openings := PySem.W.fnOf "_law_openings" "_law_openings" (defArgs s_law_openings) (defBody s_law_openings) (defScope s_law_openings) .none kV8 dc8 pm8 an8 cd8 ct8
    F_law_openings := fun_mk (st := s_law_openings) l8 c8 k8
    g_law_openings := PySem.W.mg_of X G a8
    n_law_openings := (fun_mk (st := s_law_openings) l8 c8 k8).binds (ps := ["_law_term"]) fun _ _ _ _ _ _ us hl => match us, hl with | [_], _ => rfl
    a_all_ends := f9
    d_all_ends := PySem.W.fnOf "all_ends" "all_ends" (defArgs s_all_ends) (defBody s_all_ends) (defScope s_all_ends) .none kV9 dc9 pm9 an9 cd9 ct9
    F_all_ends := fun_mk (st := s_all_ends) l9 c9 k9
    g_all_ends := PySem.W.mg_of X G a9
    n_all_ends := (fun_mk (st := s_all_ends) l9 c9 k9).binds (ps := ["term"]) fun _ _ _ _ _ _ us hl => match us, hl with | [_], _ => rfl
    a_all_around := f10
    d_all_around := PySem.W.fnOf "all_around" "all_around" (defArgs s_all_around) (defBody s_all_around) (defScope s_all_around) .none kV10 dc10 pm10 an10 cd10 ct10
    F_all_around := fun_mk (st := s_all_around) l10 c10 k10
    g_all_around := PySem.W.mg_of X G a10
    n_all_around := (fun_mk (st := s_all_around) l10 c10 k10).binds (ps := ["term"]) fun _ _ _ _ _ _ us hl => match us, hl with | [_], _ => rfl
    a_means_none := f11
    d_means_none := PySem.W.fnOf "means_none" "means_none" (defArgs s_means_none) (defBody s_means_none) (defScope s_means_none) .none kV11 dc11 pm11 an11 cd11 ct11
    F_means_none := fun_mk (st := s_means_none) l11 c11 k11
    g_means_none := PySem.W.mg_of X G a11
    n_means_none := (fun_mk (st := s_means_none) l11 c11 k11).binds (ps := ["term"]) fun _ _ _ _ _ _ us hl => match us, hl with | [_], _ => rfl
    a_more_due := f12
    d_more_due := PySem.W.fnOf "more_due" "more_due" (defArgs s_more_due) (defBody s_more_due) (defScope s_more_due) .none kV12 dc12 pm12 an12 cd12 ct12
    F_more_due := fun_mk (st := s_more_due) l12 c12 k12
    g_more_due := PySem.W.mg_of X G a12
    n_more_due := (fun_mk (st := s_more_due) l12 c12 k12).binds (ps := ["number"]) fun _ _ _ _ _ _ us hl => match us, hl with | [_], _ => rfl
    a_part_end := f13
    d_part_end := PySem.W.fnOf "part_end" "part_end" (defArgs s_part_end) (defBody s_part_end) (defScope s_part_end) .none kV13 dc13 pm13 an13 cd13 ct13
    F_part_end := fun_mk (st := s_part_end) l13 c13 k13
    g_part_end := PySem.W.mg_of X G a13
    n_part_end := (fun_mk (st := s_part_end) l13 c13 k13).binds (ps := ["term", "place"]) fun _ _ _ _ _ _ us hl => match us, hl with | [_, _], _ => rfl
    a_taker_of := f14
    d_taker_of := PySem.W.fnOf "taker_of" "taker_of" (defArgs s_taker_of) (defBody s_taker_of) (defScope s_taker_of) .none kV14 dc14 pm14 an14 cd14 ct14
    F_taker_of := fun_mk (st := s_taker_of) l14 c14 k14
    g_taker_of := PySem.W.mg_of X G a14
    n_taker_of := (fun_mk (st := s_taker_of) l14 c14 k14).binds (ps := ["term", "place"]) fun _ _ _ _ _ _ us hl => match us, hl with | [_, _], _ => rfl
    a_is_opening := f15
    d_is_opening := PySem.W.fnOf "is_opening" "is_opening" (defArgs s_is_opening) (defBody s_is_opening) (defScope s_is_opening) .none kV15 dc15 pm15 an15 cd15 ct15
    F_is_opening := fun_mk (st := s_is_opening) l15 c15 k15
    g_is_opening := PySem.W.mg_of X G a15
    n_is_opening := (fun_mk (st := s_is_opening) l15 c15 k15).binds (ps := ["term", "place"]) fun _ _ _ _ _ _ us hl => match us, hl with | [_, _], _ => rfl
    a_all_openings := f16
    d_all_openings := PySem.W.fnOf "all_openings" "all_openings" (defArgs s_all_openings) (defBody s_all_openings) (defScope s_all_openings) .none kV16 dc16 pm16 an16 cd16 ct16
    F_all_openings := fun_mk (st := s_all_openings) l16 c16 k16
    g_all_openings := PySem.W.mg_of X G a16
    n_all_openings := (fun_mk (st := s_all_openings) l16 c16 k16).binds (ps := ["term"]) fun _ _ _ _ _ _ us hl => match us, hl with | [_], _ => rfl
    a_is_read := f17
    d_is_read := PySem.W.fnOf "is_read" "is_read" (defArgs s_is_read) (defBody s_is_read) (defScope s_is_read) .none kV17 dc17 pm17 an17 cd17 ct17
    F_is_read := fun_mk (st := s_is_read) l17 c17 k17
    g_is_read := PySem.W.mg_of X G a17
    n_is_read := (fun_mk (st := s_is_read) l17 c17 k17).binds (ps := ["numbers"]) fun _ _ _ _ _ _ us hl => match us, hl with | [_], _ => rfl
    a_is_whole := f18
    d_is_whole := PySem.W.fnOf "is_whole" "is_whole" (defArgs s_is_whole) (defBody s_is_whole) (defScope s_is_whole) .none kV18 dc18 pm18 an18 cd18 ct18
    F_is_whole := fun_mk (st := s_is_whole) l18 c18 k18
    g_is_whole := PySem.W.mg_of X G a18
    n_is_whole := (fun_mk (st := s_is_whole) l18 c18 k18).binds (ps := ["thing"]) fun _ _ _ _ _ _ us hl => match us, hl with | [_], _ => rfl
    a_is_term := f19
    d_is_term := PySem.W.fnOf "is_term" "is_term" (defArgs s_is_term) (defBody s_is_term) (defScope s_is_term) .none kV19 dc19 pm19 an19 cd19 ct19
    F_is_term := fun_mk (st := s_is_term) l19 c19 k19
    g_is_term := PySem.W.mg_of X G a19
    n_is_term := (fun_mk (st := s_is_term) l19 c19 k19).binds (ps := ["thing"]) fun _ _ _ _ _ _ us hl => match us, hl with | [_], _ => rfl
    a_look_term := f20
    d_look_term := PySem.W.fnOf "look_term" "look_term" (defArgs s_look_term) (defBody s_look_term) (defScope s_look_term) .none kV20 dc20 pm20 an20 cd20 ct20
    F_look_term := fun_mk (st := s_look_term) l20 c20 k20
    g_look_term := PySem.W.mg_of X G a20
    n_look_term := (fun_mk (st := s_look_term) l20 c20 k20).binds (ps := ["thing"]) fun _ _ _ _ _ _ us hl => match us, hl with | [_], _ => rfl
    a_look_small := f21
    d_look_small := PySem.W.fnOf "look_small" "look_small" (defArgs s_look_small) (defBody s_look_small) (defScope s_look_small) .none kV21 dc21 pm21 an21 cd21 ct21
    F_look_small := fun_mk (st := s_look_small) l21 c21 k21
    g_look_small := PySem.W.mg_of X G a21
    n_look_small := (fun_mk (st := s_look_small) l21 c21 k21).binds (ps := ["term"]) fun _ _ _ _ _ _ us hl => match us, hl with | [_], _ => rfl
    a_openings := f22
    d_openings := PySem.W.fnOf "openings" "openings" (defArgs s_openings) (defBody s_openings) (defScope s_openings) .none kV22 dc22 pm22 an22 cd22 ct22
    F_openings := fun_mk (st := s_openings) l22 c22 k22
    g_openings := PySem.W.mg_of X G a22
    n_openings := (fun_mk (st := s_openings) l22 c22 k22).binds (ps := ["term"]) fun _ _ _ _ _ _ us hl => match us, hl with | [_], _ => rfl
    a_look_place := f23
    d_look_place := PySem.W.fnOf "look_place" "look_place" (defArgs s_look_place) (defBody s_look_place) (defScope s_look_place) .none kV23 dc23 pm23 an23 cd23 ct23
    F_look_place := fun_mk (st := s_look_place) l23 c23 k23
    g_look_place := PySem.W.mg_of X G a23
    n_look_place := (fun_mk (st := s_look_place) l23 c23 k23).binds (ps := ["place", "term"]) fun _ _ _ _ _ _ us hl => match us, hl with | [_, _], _ => rfl
    a_look_opening := f24
    d_look_opening := PySem.W.fnOf "look_opening" "look_opening" (defArgs s_look_opening) (defBody s_look_opening) (defScope s_look_opening) .none kV24 dc24 pm24 an24 cd24 ct24
    F_look_opening := fun_mk (st := s_look_opening) l24 c24 k24
    g_look_opening := PySem.W.mg_of X G a24
    n_look_opening := (fun_mk (st := s_look_opening) l24 c24 k24).binds (ps := ["term", "place"]) fun _ _ _ _ _ _ us hl => match us, hl with | [_, _], _ => rfl
    a_moved_by := f25
    d_moved_by := PySem.W.fnOf "moved_by" "moved_by" (defArgs s_moved_by) (defBody s_moved_by) (defScope s_moved_by) .none kV25 dc25 pm25 an25 cd25 ct25
    F_moved_by := fun_mk (st := s_moved_by) l25 c25 k25
    g_moved_by := PySem.W.mg_of X G a25
    n_moved_by := (fun_mk (st := s_moved_by) l25 c25 k25).binds (ps := ["term", "many", "least"]) fun _ _ _ _ _ _ us hl => match us, hl with | [_, _, _], _ => rfl
    a_undo_at := f26
    d_undo_at := PySem.W.fnOf "undo_at" "undo_at" (defArgs s_undo_at) (defBody s_undo_at) (defScope s_undo_at) .none kV26 dc26 pm26 an26 cd26 ct26
    F_undo_at := fun_mk (st := s_undo_at) l26 c26 k26
    g_undo_at := PySem.W.mg_of X G a26
    n_undo_at := (fun_mk (st := s_undo_at) l26 c26 k26).binds (ps := ["term", "place"]) fun _ _ _ _ _ _ us hl => match us, hl with | [_, _], _ => rfl
    a_undone := f27
    d_undone := PySem.W.fnOf "undone" "undone" (defArgs s_undone) (defBody s_undone) (defScope s_undone) .none kV27 dc27 pm27 an27 cd27 ct27
    F_undone := fun_mk (st := s_undone) l27 c27 k27
    g_undone := PySem.W.mg_of X G a27
    n_undone := (fun_mk (st := s_undone) l27 c27 k27).binds (ps := ["term", "place"]) fun _ _ _ _ _ _ us hl => match us, hl with | [_, _], _ => rfl
    c_law_right := lc28
    p_law_right := lp28
    C_law_right := ⟨_, _, _, _, _, _, _, _, rfl, l28, c28⟩
    a_law_right := f28
    d_law_right := PySem.W.fnOf "_law_right" "_law_right" (defArgs s_law_right) (defBody s_law_right) (defScope s_law_right) .none kV28 dc28 pm28 an28 (.ref lc28) ct28
    F_law_right := fun_mk (st := s_law_right) l28 c28 k28
    g_law_right := PySem.W.mg_of X G a28
    n_law_right := (fun_mk (st := s_law_right) l28 c28 k28).binds (ps := ["_law_term"]) fun _ _ _ _ _ _ us hl => match us, hl with | [_], _ => rfl
    a_law_term_by := f29
    d_law_term_by := PySem.W.fnOf "_law_term_by" "_law_term_by" (defArgs s_law_term_by) (defBody s_law_term_by) (defScope s_law_term_by) .none kV29 dc29 pm29 an29 cd29 ct29
    F_law_term_by := fun_mk (st := s_law_term_by) l29 c29 k29
    g_law_term_by := PySem.W.mg_of X G a29
    n_law_term_by := (fun_mk (st := s_law_term_by) l29 c29 k29).binds (ps := ["_law_cell", "_law_most"]) fun _ _ _ _ _ _ us hl => match us, hl with | [_, _], _ => rfl
    c_law := lc30
    p_law := lp30
    C_law := ⟨_, _, _, _, _, _, _, _, rfl, l30, c30⟩
    a_law := f30
    d_law := PySem.W.fnOf "law" "law" (defArgs s_law) (defBody s_law) (defScope s_law) .none kV30 dc30 pm30 an30 (.ref lc30) ct30
    F_law := fun_mk (st := s_law) l30 c30 k30
    g_law := PySem.W.mg_of X G a30
    n_law := (fun_mk (st := s_law) l30 c30 k30).binds (ps := ["_law_script"]) fun _ _ _ _ _ _ us hl => match us, hl with | [_], _ => rfl
    a_law_alone := f31
    d_law_alone := PySem.W.fnOf "_law_alone" "_law_alone" (defArgs s_law_alone) (defBody s_law_alone) (defScope s_law_alone) .none kV31 dc31 pm31 an31 cd31 ct31
    F_law_alone := fun_mk (st := s_law_alone) l31 c31 k31
    g_law_alone := PySem.W.mg_of X G a31
    n_law_alone := (fun_mk (st := s_law_alone) l31 c31 k31).binds (ps := ["_law_e"]) fun _ _ _ _ _ _ us hl => match us, hl with | [_], _ => rfl
    a_law_how := f32
    d_law_how := PySem.W.fnOf "_law_how" "_law_how" (defArgs s_law_how) (defBody s_law_how) (defScope s_law_how) .none kV32 dc32 pm32 an32 cd32 ct32
    F_law_how := fun_mk (st := s_law_how) l32 c32 k32
    g_law_how := PySem.W.mg_of X G a32
    n_law_how := (fun_mk (st := s_law_how) l32 c32 k32).binds (ps := ["_law_deed"]) fun _ _ _ _ _ _ us hl => match us, hl with | [_], _ => rfl
    t_FAR := tc0
    c_FAR := PySem.W.mg_of X G v0
    t_GIFT := tc1
    c_GIFT := PySem.W.mg_of X G v1
    t_MOST := tc2
    c_MOST := PySem.W.mg_of X G v2
    t_SMALL := tc3
    c_SMALL := PySem.W.mg_of X G v3
    t_TURN := tc4
    c_TURN := PySem.W.mg_of X G v4
    A_NoOpening := E0
    g_NoOpening := PySem.W.mg_of X G ea0
    t_NoOpening := ee0
    s_NoOpening := ed0
    x_NoOpening := eb0
    k_NoOpening := ec0
    h_NoOpening := eh0
    A_NoPlace := E1
    g_NoPlace := PySem.W.mg_of X G ea1
    t_NoPlace := ee1
    s_NoPlace := ed1
    x_NoPlace := eb1
    k_NoPlace := ec1
    h_NoPlace := eh1
    A_NoSize := E2
    g_NoSize := PySem.W.mg_of X G ea2
    t_NoSize := ee2
    s_NoSize := ed2
    x_NoSize := eb2
    k_NoSize := ec2
    h_NoSize := eh2
    A_NoTerm := E3
    g_NoTerm := PySem.W.mg_of X G ea3
    t_NoTerm := ee3
    s_NoTerm := ed3
    x_NoTerm := eb3
    k_NoTerm := ec3
    h_NoTerm := eh3
    A_NoStep := E4
    g_NoStep := PySem.W.mg_of X G ea4
    t_NoStep := ee4
    h_NoStep := eh4
    A_NoRow := E5
    g_NoRow := PySem.W.mg_of X G ea5
    t_NoRow := ee5
    h_NoRow := eh5
    A_InOrder := E6
    g_InOrder := PySem.W.mg_of X G ea6
    t_InOrder := ee6
    h_InOrder := eh6
    A_TooMuch := E7
    g_TooMuch := PySem.W.mg_of X G ea7
    t_TooMuch := ee7
    h_TooMuch := eh7
    A_NoTree := E8
    g_NoTree := PySem.W.mg_of X G ea8
    t_NoTree := ee8
    h_NoTree := eh8
    A_NoLast := E9
    g_NoLast := PySem.W.mg_of X G ea9
    t_NoLast := ee9
    h_NoLast := eh9
    A_Alike := E10
    g_Alike := PySem.W.mg_of X G ea10
    t_Alike := ee10
    h_Alike := eh10
    A_NotAlike := E11
    g_NotAlike := PySem.W.mg_of X G ea11
    t_NotAlike := ee11
    h_NotAlike := eh11
    A_NoHole := E12
    g_NoHole := PySem.W.mg_of X G ea12
    t_NoHole := ee12
    h_NoHole := eh12
    A_NoForms := E13
    g_NoForms := PySem.W.mg_of X G ea13
    t_NoForms := ee13
    h_NoForms := eh13
    A_NoLink := E14
    g_NoLink := PySem.W.mg_of X G ea14
    t_NoLink := ee14
    h_NoLink := eh14
    A_NoText := E15
    g_NoText := PySem.W.mg_of X G ea15
    t_NoText := ee15
    h_NoText := eh15
    A_NoName := E16
    g_NoName := PySem.W.mg_of X G ea16
    t_NoName := ee16
    h_NoName := eh16
    A_Wrong := E17
    g_Wrong := PySem.W.mg_of X G ea17
    t_Wrong := ee17
    s_Wrong := ed17
    h_Wrong := eh17
    e_NoTerm := ⟨xg3, xk3, ed3, eh3, xa3, xn, xt, xm3⟩
    q_NoTerm_NoTerm := xq3_3
    q_NoTerm_NoPlace := xq3_1
    q_NoTerm_NoStep := xq3_4
    q_NoTerm_NoRow := xq3_5
    q_NoTerm_InOrder := xq3_6
    q_NoTerm_NoSize := xq3_2
    q_NoTerm_TooMuch := xq3_7
    q_NoTerm_NoOpening := xq3_0
    q_NoTerm_NoTree := xq3_8
    q_NoTerm_NoLast := xq3_9
    q_NoTerm_Alike := xq3_10
    q_NoTerm_NotAlike := xq3_11
    q_NoTerm_NoHole := xq3_12
    q_NoTerm_NoForms := xq3_13
    q_NoTerm_NoLink := xq3_14
    q_NoTerm_NoText := xq3_15
    q_NoTerm_NoName := xq3_16
    q_NoTerm_V := xv3
    q_NoTerm_W := xw3
    e_NoPlace := ⟨xg1, xk1, ed1, eh1, xa1, xn, xt, xm1⟩
    q_NoPlace_NoTerm := xq1_3
    q_NoPlace_NoPlace := xq1_1
    q_NoPlace_NoStep := xq1_4
    q_NoPlace_NoRow := xq1_5
    q_NoPlace_InOrder := xq1_6
    q_NoPlace_NoSize := xq1_2
    q_NoPlace_TooMuch := xq1_7
    q_NoPlace_NoOpening := xq1_0
    q_NoPlace_NoTree := xq1_8
    q_NoPlace_NoLast := xq1_9
    q_NoPlace_Alike := xq1_10
    q_NoPlace_NotAlike := xq1_11
    q_NoPlace_NoHole := xq1_12
    q_NoPlace_NoForms := xq1_13
    q_NoPlace_NoLink := xq1_14
    q_NoPlace_NoText := xq1_15
    q_NoPlace_NoName := xq1_16
    q_NoPlace_V := xv1
    q_NoPlace_W := xw1
    e_NoSize := ⟨xg2, xk2, ed2, eh2, xa2, xn, xt, xm2⟩
    q_NoSize_NoTerm := xq2_3
    q_NoSize_NoPlace := xq2_1
    q_NoSize_NoStep := xq2_4
    q_NoSize_NoRow := xq2_5
    q_NoSize_InOrder := xq2_6
    q_NoSize_NoSize := xq2_2
    q_NoSize_TooMuch := xq2_7
    q_NoSize_NoOpening := xq2_0
    q_NoSize_NoTree := xq2_8
    q_NoSize_NoLast := xq2_9
    q_NoSize_Alike := xq2_10
    q_NoSize_NotAlike := xq2_11
    q_NoSize_NoHole := xq2_12
    q_NoSize_NoForms := xq2_13
    q_NoSize_NoLink := xq2_14
    q_NoSize_NoText := xq2_15
    q_NoSize_NoName := xq2_16
    q_NoSize_V := xv2
    q_NoSize_W := xw2
    e_NoOpening := ⟨xg0, xk0, ed0, eh0, xa0, xn, xt, xm0⟩
    q_NoOpening_NoTerm := xq0_3
    q_NoOpening_NoPlace := xq0_1
    q_NoOpening_NoStep := xq0_4
    q_NoOpening_NoRow := xq0_5
    q_NoOpening_InOrder := xq0_6
    q_NoOpening_NoSize := xq0_2
    q_NoOpening_TooMuch := xq0_7
    q_NoOpening_NoOpening := xq0_0
    q_NoOpening_NoTree := xq0_8
    q_NoOpening_NoLast := xq0_9
    q_NoOpening_Alike := xq0_10
    q_NoOpening_NotAlike := xq0_11
    q_NoOpening_NoHole := xq0_12
    q_NoOpening_NoForms := xq0_13
    q_NoOpening_NoLink := xq0_14
    q_NoOpening_NoText := xq0_15
    q_NoOpening_NoName := xq0_16
    q_NoOpening_V := xv0
    q_NoOpening_W := xw0
    b_ValueError := PySem.W.mg_none_of X G z0
    b_all := PySem.W.mg_none_of X G z1
    b_bool := PySem.W.mg_none_of X G z2
    b_enumerate := PySem.W.mg_none_of X G z3
    b_int := PySem.W.mg_none_of X G z4
    b_isinstance := PySem.W.mg_none_of X G z5
    b_len := PySem.W.mg_none_of X G z6
    b_list := PySem.W.mg_none_of X G z7
    b_range := PySem.W.mg_none_of X G z8
    b_sum := PySem.W.mg_none_of X G z9
    b_tuple := PySem.W.mg_none_of X G z10
    b_zip := PySem.W.mg_none_of X G z11
  }, rfl, rfl, rfl, rfl, rfl, rfl⟩
def spLaw (K : PySem.W.Frag) (Ts : List (Addr × Str)) : Sp := fun vs H Q _ => ∃ (a : Addr) (ns : List Int), vs = [.ref a] ∧ SqL K H a (ns.map V.int) ∧ ns.length ≤ 63 ∧ LamX.Tabs Ts H ∧ ∀ H', Q (.bl true) H'
theorem ok_all {P : Program} {w : World} {K : PySem.W.Frag} {mg : Str → Option Value} {base : Heap} {Ts : List (Addr × Str)} (T : Txt K mg) (B : Tb T Ts base) : FnOk P w K mg base (L2.CX P w) 12 T.a_law T.d_law ["_law_script"] (spLaw K Ts) :=
  (ok_law (Ts := Ts) T B).imp fun vs H Q E ⟨a, ns, h1, h2, h3, ht, q⟩ => by
    subst h1
    obtain ⟨e1, e2⟩ := law_true ns h3
    rcases h2 with (h2 | h2) | h2
    · obtain ⟨fr, e⟩ := e2
      refine ⟨rfl, Nob, [.lst (ns.map D.int)], fun _ z => z.elim, ht, .cons (.lst h2 (fun z => z) (RpL.ints ns)) .nil, ?_⟩
      rw [e]
      intro v H' _ r
      cases fr with
      | true => obtain ⟨F, h, _⟩ := r; cases h; exact q H'
      | false => cases (show Rp K H' Nob v (.bl true) from r); exact q H'
    · obtain ⟨fr, e⟩ := e1
      refine ⟨rfl, Nob, [.scr ns], fun _ z => z.elim, ht, .cons (.scr (.inl h2)) .nil, ?_⟩
      rw [e]
      intro v H' _ r
      cases fr with
      | true => obtain ⟨F, h, _⟩ := r; cases h; exact q H'
      | false => cases (show Rp K H' Nob v (.bl true) from r); exact q H'
    · obtain ⟨fr, e⟩ := e1
      refine ⟨rfl, Nob, [.scr ns], fun _ z => z.elim, ht, .cons (.scr (.inr h2)) .nil, ?_⟩
      rw [e]
      intro v H' _ r
      cases fr with
      | true => obtain ⟨F, h, _⟩ := r; cases h; exact q H'
      | false => cases (show Rp K H' Nob v (.bl true) from r); exact q H'
set_option maxHeartbeats 0 in
theorem txt_end {l : PySem.W.OpenLaw} {w : World} {K : PySem.W.Frag} {h : Heap} {mg : Str → Option Value} {fa : Addr} (X : K.In h) (G : h.Ns mainGlobals mg) (hfa : mg "law" = some (.ref fa)) (tabs : ∀ y ∈ (["_law_right", "law"] : List Str), DefTab K mg y h)
    {f0 : Addr} {od0 an0 : Option Addr} {sl0 : Array (Option Value)} {oc0 kV0 dc0 pm0 ct0 : Value} {cd0 : Value}
    {f1 : Addr} {od1 an1 : Option Addr} {sl1 : Array (Option Value)} {oc1 kV1 dc1 pm1 ct1 : Value} {cd1 : Value}
    {f2 : Addr} {od2 an2 : Option Addr} {sl2 : Array (Option Value)} {oc2 kV2 dc2 pm2 ct2 : Value} {cd2 : Value}
    {f3 : Addr} {od3 an3 : Option Addr} {sl3 : Array (Option Value)} {oc3 kV3 dc3 pm3 ct3 : Value} {cd3 : Value}
    {f4 : Addr} {od4 an4 : Option Addr} {sl4 : Array (Option Value)} {oc4 kV4 dc4 pm4 ct4 : Value} {cd4 : Value}
    {f5 : Addr} {od5 an5 : Option Addr} {sl5 : Array (Option Value)} {oc5 kV5 dc5 pm5 ct5 : Value} {cd5 : Value}
    {f6 : Addr} {od6 an6 : Option Addr} {sl6 : Array (Option Value)} {oc6 kV6 dc6 pm6 ct6 : Value} {cd6 : Value}
    {f7 : Addr} {od7 an7 : Option Addr} {sl7 : Array (Option Value)} {oc7 kV7 dc7 pm7 ct7 : Value} {cd7 : Value}
    {f8 : Addr} {od8 an8 : Option Addr} {sl8 : Array (Option Value)} {oc8 kV8 dc8 pm8 ct8 : Value} {cd8 : Value}
    {f9 : Addr} {od9 an9 : Option Addr} {sl9 : Array (Option Value)} {oc9 kV9 dc9 pm9 ct9 : Value} {cd9 : Value}
    {f10 : Addr} {od10 an10 : Option Addr} {sl10 : Array (Option Value)} {oc10 kV10 dc10 pm10 ct10 : Value} {cd10 : Value}
    {f11 : Addr} {od11 an11 : Option Addr} {sl11 : Array (Option Value)} {oc11 kV11 dc11 pm11 ct11 : Value} {cd11 : Value}
    {f12 : Addr} {od12 an12 : Option Addr} {sl12 : Array (Option Value)} {oc12 kV12 dc12 pm12 ct12 : Value} {cd12 : Value}
    {f13 : Addr} {od13 an13 : Option Addr} {sl13 : Array (Option Value)} {oc13 kV13 dc13 pm13 ct13 : Value} {cd13 : Value}
    {f14 : Addr} {od14 an14 : Option Addr} {sl14 : Array (Option Value)} {oc14 kV14 dc14 pm14 ct14 : Value} {cd14 : Value}
    {f15 : Addr} {od15 an15 : Option Addr} {sl15 : Array (Option Value)} {oc15 kV15 dc15 pm15 ct15 : Value} {cd15 : Value}
    {f16 : Addr} {od16 an16 : Option Addr} {sl16 : Array (Option Value)} {oc16 kV16 dc16 pm16 ct16 : Value} {cd16 : Value}
    {f17 : Addr} {od17 an17 : Option Addr} {sl17 : Array (Option Value)} {oc17 kV17 dc17 pm17 ct17 : Value} {cd17 : Value}
    {f18 : Addr} {od18 an18 : Option Addr} {sl18 : Array (Option Value)} {oc18 kV18 dc18 pm18 ct18 : Value} {cd18 : Value}
    {f19 : Addr} {od19 an19 : Option Addr} {sl19 : Array (Option Value)} {oc19 kV19 dc19 pm19 ct19 : Value} {cd19 : Value}
    {f20 : Addr} {od20 an20 : Option Addr} {sl20 : Array (Option Value)} {oc20 kV20 dc20 pm20 ct20 : Value} {cd20 : Value}
    {f21 : Addr} {od21 an21 : Option Addr} {sl21 : Array (Option Value)} {oc21 kV21 dc21 pm21 ct21 : Value} {cd21 : Value}
    {f22 : Addr} {od22 an22 : Option Addr} {sl22 : Array (Option Value)} {oc22 kV22 dc22 pm22 ct22 : Value} {cd22 : Value}
    {f23 : Addr} {od23 an23 : Option Addr} {sl23 : Array (Option Value)} {oc23 kV23 dc23 pm23 ct23 : Value} {cd23 : Value}
    {f24 : Addr} {od24 an24 : Option Addr} {sl24 : Array (Option Value)} {oc24 kV24 dc24 pm24 ct24 : Value} {cd24 : Value}
    {f25 : Addr} {od25 an25 : Option Addr} {sl25 : Array (Option Value)} {oc25 kV25 dc25 pm25 ct25 : Value} {cd25 : Value}
    {f26 : Addr} {od26 an26 : Option Addr} {sl26 : Array (Option Value)} {oc26 kV26 dc26 pm26 ct26 : Value} {cd26 : Value}
    {f27 : Addr} {od27 an27 : Option Addr} {sl27 : Array (Option Value)} {oc27 kV27 dc27 pm27 ct27 : Value} {cd27 : Value}
    {f28 : Addr} {od28 an28 : Option Addr} {sl28 : Array (Option Value)} {oc28 kV28 dc28 pm28 ct28 : Value}
    {lc28 lp28 : Addr} {le28 : Value} {ld28 : Option Addr} {lv28 : Array Value} {ls28 : Array (Option Value)}
    {f29 : Addr} {od29 an29 : Option Addr} {sl29 : Array (Option Value)} {oc29 kV29 dc29 pm29 ct29 : Value} {cd29 : Value}
    {f30 : Addr} {od30 an30 : Option Addr} {sl30 : Array (Option Value)} {oc30 kV30 dc30 pm30 ct30 : Value}
    {lc30 lp30 : Addr} {le30 : Value} {ld30 : Option Addr} {lv30 : Array Value} {ls30 : Array (Option Value)}
    {f31 : Addr} {od31 an31 : Option Addr} {sl31 : Array (Option Value)} {oc31 kV31 dc31 pm31 ct31 : Value} {cd31 : Value}
    {f32 : Addr} {od32 an32 : Option Addr} {sl32 : Array (Option Value)} {oc32 kV32 dc32 pm32 ct32 : Value} {cd32 : Value}
    {tc0 : Tok}
    {tc1 : Tok}
    {tc2 : Tok}
    {tc3 : Tok}
    {tc4 : Tok}
    {E0 : Addr}
    {E1 : Addr}
    {E2 : Addr}
    {E3 : Addr}
    {E4 : Addr}
    {E5 : Addr}
    {E6 : Addr}
    {E7 : Addr}
    {E8 : Addr}
    {E9 : Addr}
    {E10 : Addr}
    {E11 : Addr}
    {E12 : Addr}
    {E13 : Addr}
    {E14 : Addr}
    {E15 : Addr}
    {E16 : Addr}
    {E17 : Addr}
    (a0 : PySem.W.nsIn K mainGlobals "_law_cell_at" = some (some (.ref f0)))
    (l0 : K.lookup f0 = some ⟨oc0, od0, .func (PySem.W.fnOf "_law_cell_at" "_law_cell_at" (defArgs s_law_cell_at) (defBody s_law_cell_at) (defScope s_law_cell_at) .none kV0 dc0 pm0 an0 cd0 ct0), sl0⟩)
    (c0 : PySem.W.codeIn K cd0 "_law_cell_at" = true)
    (k0 : PySem.W.keepIn K (.ref f0) = true)
    (a1 : PySem.W.nsIn K mainGlobals "_law_mixed" = some (some (.ref f1)))
    (l1 : K.lookup f1 = some ⟨oc1, od1, .func (PySem.W.fnOf "_law_mixed" "_law_mixed" (defArgs s_law_mixed) (defBody s_law_mixed) (defScope s_law_mixed) .none kV1 dc1 pm1 an1 cd1 ct1), sl1⟩)
    (c1 : PySem.W.codeIn K cd1 "_law_mixed" = true)
    (k1 : PySem.W.keepIn K (.ref f1) = true)
    (a2 : PySem.W.nsIn K mainGlobals "_law_numbers" = some (some (.ref f2)))
    (l2 : K.lookup f2 = some ⟨oc2, od2, .func (PySem.W.fnOf "_law_numbers" "_law_numbers" (defArgs s_law_numbers) (defBody s_law_numbers) (defScope s_law_numbers) .none kV2 dc2 pm2 an2 cd2 ct2), sl2⟩)
    (c2 : PySem.W.codeIn K cd2 "_law_numbers" = true)
    (k2 : PySem.W.keepIn K (.ref f2) = true)
    (a3 : PySem.W.nsIn K mainGlobals "_law_ends" = some (some (.ref f3)))
    (l3 : K.lookup f3 = some ⟨oc3, od3, .func (PySem.W.fnOf "_law_ends" "_law_ends" (defArgs s_law_ends) (defBody s_law_ends) (defScope s_law_ends) .none kV3 dc3 pm3 an3 cd3 ct3), sl3⟩)
    (c3 : PySem.W.codeIn K cd3 "_law_ends" = true)
    (k3 : PySem.W.keepIn K (.ref f3) = true)
    (a4 : PySem.W.nsIn K mainGlobals "_law_about" = some (some (.ref f4)))
    (l4 : K.lookup f4 = some ⟨oc4, od4, .func (PySem.W.fnOf "_law_about" "_law_about" (defArgs s_law_about) (defBody s_law_about) (defScope s_law_about) .none kV4 dc4 pm4 an4 cd4 ct4), sl4⟩)
    (c4 : PySem.W.codeIn K cd4 "_law_about" = true)
    (k4 : PySem.W.keepIn K (.ref f4) = true)
    (a5 : PySem.W.nsIn K mainGlobals "_law_moved" = some (some (.ref f5)))
    (l5 : K.lookup f5 = some ⟨oc5, od5, .func (PySem.W.fnOf "_law_moved" "_law_moved" (defArgs s_law_moved) (defBody s_law_moved) (defScope s_law_moved) .none kV5 dc5 pm5 an5 cd5 ct5), sl5⟩)
    (c5 : PySem.W.codeIn K cd5 "_law_moved" = true)
    (k5 : PySem.W.keepIn K (.ref f5) = true)
    (a6 : PySem.W.nsIn K mainGlobals "_law_opened" = some (some (.ref f6)))
    (l6 : K.lookup f6 = some ⟨oc6, od6, .func (PySem.W.fnOf "_law_opened" "_law_opened" (defArgs s_law_opened) (defBody s_law_opened) (defScope s_law_opened) .none kV6 dc6 pm6 an6 cd6 ct6), sl6⟩)
    (c6 : PySem.W.codeIn K cd6 "_law_opened" = true)
    (k6 : PySem.W.keepIn K (.ref f6) = true)
    (a7 : PySem.W.nsIn K mainGlobals "_law_closed_again" = some (some (.ref f7)))
    (l7 : K.lookup f7 = some ⟨oc7, od7, .func (PySem.W.fnOf "_law_closed_again" "_law_closed_again" (defArgs s_law_closed_again) (defBody s_law_closed_again) (defScope s_law_closed_again) .none kV7 dc7 pm7 an7 cd7 ct7), sl7⟩)
    (c7 : PySem.W.codeIn K cd7 "_law_closed_again" = true)
    (k7 : PySem.W.keepIn K (.ref f7) = true)
    (a8 : PySem.W.nsIn K mainGlobals "_law_openings" = some (some (.ref f8)))
    (l8 : K.lookup f8 = some ⟨oc8, od8, .func (PySem.W.fnOf "_law_openings" "_law_openings" (defArgs s_law_openings) (defBody s_law_openings) (defScope s_law_openings) .none kV8 dc8 pm8 an8 cd8 ct8), sl8⟩)
    (c8 : PySem.W.codeIn K cd8 "_law_openings" = true)
    (k8 : PySem.W.keepIn K (.ref f8) = true)
    (a9 : PySem.W.nsIn K mainGlobals "all_ends" = some (some (.ref f9)))
    (l9 : K.lookup f9 = some ⟨oc9, od9, .func (PySem.W.fnOf "all_ends" "all_ends" (defArgs s_all_ends) (defBody s_all_ends) (defScope s_all_ends) .none kV9 dc9 pm9 an9 cd9 ct9), sl9⟩)
    (c9 : PySem.W.codeIn K cd9 "all_ends" = true)
    (k9 : PySem.W.keepIn K (.ref f9) = true)
    (a10 : PySem.W.nsIn K mainGlobals "all_around" = some (some (.ref f10)))
    (l10 : K.lookup f10 = some ⟨oc10, od10, .func (PySem.W.fnOf "all_around" "all_around" (defArgs s_all_around) (defBody s_all_around) (defScope s_all_around) .none kV10 dc10 pm10 an10 cd10 ct10), sl10⟩)
    (c10 : PySem.W.codeIn K cd10 "all_around" = true)
    (k10 : PySem.W.keepIn K (.ref f10) = true)
    (a11 : PySem.W.nsIn K mainGlobals "means_none" = some (some (.ref f11)))
    (l11 : K.lookup f11 = some ⟨oc11, od11, .func (PySem.W.fnOf "means_none" "means_none" (defArgs s_means_none) (defBody s_means_none) (defScope s_means_none) .none kV11 dc11 pm11 an11 cd11 ct11), sl11⟩)
    (c11 : PySem.W.codeIn K cd11 "means_none" = true)
    (k11 : PySem.W.keepIn K (.ref f11) = true)
    (a12 : PySem.W.nsIn K mainGlobals "more_due" = some (some (.ref f12)))
    (l12 : K.lookup f12 = some ⟨oc12, od12, .func (PySem.W.fnOf "more_due" "more_due" (defArgs s_more_due) (defBody s_more_due) (defScope s_more_due) .none kV12 dc12 pm12 an12 cd12 ct12), sl12⟩)
    (c12 : PySem.W.codeIn K cd12 "more_due" = true)
    (k12 : PySem.W.keepIn K (.ref f12) = true)
    (a13 : PySem.W.nsIn K mainGlobals "part_end" = some (some (.ref f13)))
    (l13 : K.lookup f13 = some ⟨oc13, od13, .func (PySem.W.fnOf "part_end" "part_end" (defArgs s_part_end) (defBody s_part_end) (defScope s_part_end) .none kV13 dc13 pm13 an13 cd13 ct13), sl13⟩)
    (c13 : PySem.W.codeIn K cd13 "part_end" = true)
    (k13 : PySem.W.keepIn K (.ref f13) = true)
    (a14 : PySem.W.nsIn K mainGlobals "taker_of" = some (some (.ref f14)))
    (l14 : K.lookup f14 = some ⟨oc14, od14, .func (PySem.W.fnOf "taker_of" "taker_of" (defArgs s_taker_of) (defBody s_taker_of) (defScope s_taker_of) .none kV14 dc14 pm14 an14 cd14 ct14), sl14⟩)
    (c14 : PySem.W.codeIn K cd14 "taker_of" = true)
    (k14 : PySem.W.keepIn K (.ref f14) = true)
    (a15 : PySem.W.nsIn K mainGlobals "is_opening" = some (some (.ref f15)))
    (l15 : K.lookup f15 = some ⟨oc15, od15, .func (PySem.W.fnOf "is_opening" "is_opening" (defArgs s_is_opening) (defBody s_is_opening) (defScope s_is_opening) .none kV15 dc15 pm15 an15 cd15 ct15), sl15⟩)
    (c15 : PySem.W.codeIn K cd15 "is_opening" = true)
    (k15 : PySem.W.keepIn K (.ref f15) = true)
    (a16 : PySem.W.nsIn K mainGlobals "all_openings" = some (some (.ref f16)))
    (l16 : K.lookup f16 = some ⟨oc16, od16, .func (PySem.W.fnOf "all_openings" "all_openings" (defArgs s_all_openings) (defBody s_all_openings) (defScope s_all_openings) .none kV16 dc16 pm16 an16 cd16 ct16), sl16⟩)
    (c16 : PySem.W.codeIn K cd16 "all_openings" = true)
    (k16 : PySem.W.keepIn K (.ref f16) = true)
    (a17 : PySem.W.nsIn K mainGlobals "is_read" = some (some (.ref f17)))
    (l17 : K.lookup f17 = some ⟨oc17, od17, .func (PySem.W.fnOf "is_read" "is_read" (defArgs s_is_read) (defBody s_is_read) (defScope s_is_read) .none kV17 dc17 pm17 an17 cd17 ct17), sl17⟩)
    (c17 : PySem.W.codeIn K cd17 "is_read" = true)
    (k17 : PySem.W.keepIn K (.ref f17) = true)
    (a18 : PySem.W.nsIn K mainGlobals "is_whole" = some (some (.ref f18)))
    (l18 : K.lookup f18 = some ⟨oc18, od18, .func (PySem.W.fnOf "is_whole" "is_whole" (defArgs s_is_whole) (defBody s_is_whole) (defScope s_is_whole) .none kV18 dc18 pm18 an18 cd18 ct18), sl18⟩)
    (c18 : PySem.W.codeIn K cd18 "is_whole" = true)
    (k18 : PySem.W.keepIn K (.ref f18) = true)
    (a19 : PySem.W.nsIn K mainGlobals "is_term" = some (some (.ref f19)))
    (l19 : K.lookup f19 = some ⟨oc19, od19, .func (PySem.W.fnOf "is_term" "is_term" (defArgs s_is_term) (defBody s_is_term) (defScope s_is_term) .none kV19 dc19 pm19 an19 cd19 ct19), sl19⟩)
    (c19 : PySem.W.codeIn K cd19 "is_term" = true)
    (k19 : PySem.W.keepIn K (.ref f19) = true)
    (a20 : PySem.W.nsIn K mainGlobals "look_term" = some (some (.ref f20)))
    (l20 : K.lookup f20 = some ⟨oc20, od20, .func (PySem.W.fnOf "look_term" "look_term" (defArgs s_look_term) (defBody s_look_term) (defScope s_look_term) .none kV20 dc20 pm20 an20 cd20 ct20), sl20⟩)
    (c20 : PySem.W.codeIn K cd20 "look_term" = true)
    (k20 : PySem.W.keepIn K (.ref f20) = true)
    (a21 : PySem.W.nsIn K mainGlobals "look_small" = some (some (.ref f21)))
    (l21 : K.lookup f21 = some ⟨oc21, od21, .func (PySem.W.fnOf "look_small" "look_small" (defArgs s_look_small) (defBody s_look_small) (defScope s_look_small) .none kV21 dc21 pm21 an21 cd21 ct21), sl21⟩)
    (c21 : PySem.W.codeIn K cd21 "look_small" = true)
    (k21 : PySem.W.keepIn K (.ref f21) = true)
    (a22 : PySem.W.nsIn K mainGlobals "openings" = some (some (.ref f22)))
    (l22 : K.lookup f22 = some ⟨oc22, od22, .func (PySem.W.fnOf "openings" "openings" (defArgs s_openings) (defBody s_openings) (defScope s_openings) .none kV22 dc22 pm22 an22 cd22 ct22), sl22⟩)
    (c22 : PySem.W.codeIn K cd22 "openings" = true)
    (k22 : PySem.W.keepIn K (.ref f22) = true)
    (a23 : PySem.W.nsIn K mainGlobals "look_place" = some (some (.ref f23)))
    (l23 : K.lookup f23 = some ⟨oc23, od23, .func (PySem.W.fnOf "look_place" "look_place" (defArgs s_look_place) (defBody s_look_place) (defScope s_look_place) .none kV23 dc23 pm23 an23 cd23 ct23), sl23⟩)
    (c23 : PySem.W.codeIn K cd23 "look_place" = true)
    (k23 : PySem.W.keepIn K (.ref f23) = true)
    (a24 : PySem.W.nsIn K mainGlobals "look_opening" = some (some (.ref f24)))
    (l24 : K.lookup f24 = some ⟨oc24, od24, .func (PySem.W.fnOf "look_opening" "look_opening" (defArgs s_look_opening) (defBody s_look_opening) (defScope s_look_opening) .none kV24 dc24 pm24 an24 cd24 ct24), sl24⟩)
    (c24 : PySem.W.codeIn K cd24 "look_opening" = true)
    (k24 : PySem.W.keepIn K (.ref f24) = true)
    (a25 : PySem.W.nsIn K mainGlobals "moved_by" = some (some (.ref f25)))
    (l25 : K.lookup f25 = some ⟨oc25, od25, .func (PySem.W.fnOf "moved_by" "moved_by" (defArgs s_moved_by) (defBody s_moved_by) (defScope s_moved_by) .none kV25 dc25 pm25 an25 cd25 ct25), sl25⟩)
    (c25 : PySem.W.codeIn K cd25 "moved_by" = true)
    (k25 : PySem.W.keepIn K (.ref f25) = true)
    (a26 : PySem.W.nsIn K mainGlobals "undo_at" = some (some (.ref f26)))
    (l26 : K.lookup f26 = some ⟨oc26, od26, .func (PySem.W.fnOf "undo_at" "undo_at" (defArgs s_undo_at) (defBody s_undo_at) (defScope s_undo_at) .none kV26 dc26 pm26 an26 cd26 ct26), sl26⟩)
    (c26 : PySem.W.codeIn K cd26 "undo_at" = true)
    (k26 : PySem.W.keepIn K (.ref f26) = true)
    (a27 : PySem.W.nsIn K mainGlobals "undone" = some (some (.ref f27)))
    (l27 : K.lookup f27 = some ⟨oc27, od27, .func (PySem.W.fnOf "undone" "undone" (defArgs s_undone) (defBody s_undone) (defScope s_undone) .none kV27 dc27 pm27 an27 cd27 ct27), sl27⟩)
    (c27 : PySem.W.codeIn K cd27 "undone" = true)
    (k27 : PySem.W.keepIn K (.ref f27) = true)
    (a28 : PySem.W.nsIn K mainGlobals "_law_right" = some (some (.ref f28)))
    (l28 : K.lookup f28 = some ⟨oc28, od28, .func (PySem.W.fnOf "_law_right" "_law_right" (defArgs s_law_right) (defBody s_law_right) (defScope s_law_right) .none kV28 dc28 pm28 an28 (.ref lc28) ct28), sl28⟩)
    (c28 : PySem.W.codeIn K (.ref lc28) "_law_right" = true)
    (k28 : PySem.W.keepIn K (.ref f28) = true)
    (lt28 : K.lookup lc28 = some ⟨le28, ld28, .fields lv28, ls28⟩)
    (lq28 : lv28[11]? = some (.ref lp28))
    (ln28 : K.lookup lp28 = none)
    (a29 : PySem.W.nsIn K mainGlobals "_law_term_by" = some (some (.ref f29)))
    (l29 : K.lookup f29 = some ⟨oc29, od29, .func (PySem.W.fnOf "_law_term_by" "_law_term_by" (defArgs s_law_term_by) (defBody s_law_term_by) (defScope s_law_term_by) .none kV29 dc29 pm29 an29 cd29 ct29), sl29⟩)
    (c29 : PySem.W.codeIn K cd29 "_law_term_by" = true)
    (k29 : PySem.W.keepIn K (.ref f29) = true)
    (a30 : PySem.W.nsIn K mainGlobals "law" = some (some (.ref f30)))
    (l30 : K.lookup f30 = some ⟨oc30, od30, .func (PySem.W.fnOf "law" "law" (defArgs s_law) (defBody s_law) (defScope s_law) .none kV30 dc30 pm30 an30 (.ref lc30) ct30), sl30⟩)
    (c30 : PySem.W.codeIn K (.ref lc30) "law" = true)
    (k30 : PySem.W.keepIn K (.ref f30) = true)
    (lt30 : K.lookup lc30 = some ⟨le30, ld30, .fields lv30, ls30⟩)
    (lq30 : lv30[11]? = some (.ref lp30))
    (ln30 : K.lookup lp30 = none)
    (a31 : PySem.W.nsIn K mainGlobals "_law_alone" = some (some (.ref f31)))
    (l31 : K.lookup f31 = some ⟨oc31, od31, .func (PySem.W.fnOf "_law_alone" "_law_alone" (defArgs s_law_alone) (defBody s_law_alone) (defScope s_law_alone) .none kV31 dc31 pm31 an31 cd31 ct31), sl31⟩)
    (c31 : PySem.W.codeIn K cd31 "_law_alone" = true)
    (k31 : PySem.W.keepIn K (.ref f31) = true)
    (a32 : PySem.W.nsIn K mainGlobals "_law_how" = some (some (.ref f32)))
    (l32 : K.lookup f32 = some ⟨oc32, od32, .func (PySem.W.fnOf "_law_how" "_law_how" (defArgs s_law_how) (defBody s_law_how) (defScope s_law_how) .none kV32 dc32 pm32 an32 cd32 ct32), sl32⟩)
    (c32 : PySem.W.codeIn K cd32 "_law_how" = true)
    (k32 : PySem.W.keepIn K (.ref f32) = true)
    (v0 : PySem.W.nsIn K mainGlobals "FAR" = some (some (.int (9999) tc0)))
    (v1 : PySem.W.nsIn K mainGlobals "GIFT" = some (some (.int (-2) tc1)))
    (v2 : PySem.W.nsIn K mainGlobals "MOST" = some (some (.int (20000) tc2)))
    (v3 : PySem.W.nsIn K mainGlobals "SMALL" = some (some (.int (200) tc3)))
    (v4 : PySem.W.nsIn K mainGlobals "TURN" = some (some (.int (-1) tc4)))
    (ea0 : PySem.W.nsIn K mainGlobals "NoOpening" = some (some (.ref E0)))
    (ee0 : PySem.W.typeIn K (.ref E0) = some (.type "type"))
    (ed0 : PySem.W.subIn K (.ref E0) (.type "BaseException") = some true)
    (eb0 : PySem.W.excIn K E0 [.type "ValueError", .type "Exception", .type "BaseException", .type "object"] "ValueError.__new__" = true)
    (ec0 : PySem.W.keepIn K (.ref E0) = true)
    (eh0 : PySem.W.hasDictIn K E0 = true)
    (ea1 : PySem.W.nsIn K mainGlobals "NoPlace" = some (some (.ref E1)))
    (ee1 : PySem.W.typeIn K (.ref E1) = some (.type "type"))
    (ed1 : PySem.W.subIn K (.ref E1) (.type "BaseException") = some true)
    (eb1 : PySem.W.excIn K E1 [.type "ValueError", .type "Exception", .type "BaseException", .type "object"] "ValueError.__new__" = true)
    (ec1 : PySem.W.keepIn K (.ref E1) = true)
    (eh1 : PySem.W.hasDictIn K E1 = true)
    (ea2 : PySem.W.nsIn K mainGlobals "NoSize" = some (some (.ref E2)))
    (ee2 : PySem.W.typeIn K (.ref E2) = some (.type "type"))
    (ed2 : PySem.W.subIn K (.ref E2) (.type "BaseException") = some true)
    (eb2 : PySem.W.excIn K E2 [.type "ValueError", .type "Exception", .type "BaseException", .type "object"] "ValueError.__new__" = true)
    (ec2 : PySem.W.keepIn K (.ref E2) = true)
    (eh2 : PySem.W.hasDictIn K E2 = true)
    (ea3 : PySem.W.nsIn K mainGlobals "NoTerm" = some (some (.ref E3)))
    (ee3 : PySem.W.typeIn K (.ref E3) = some (.type "type"))
    (ed3 : PySem.W.subIn K (.ref E3) (.type "BaseException") = some true)
    (eb3 : PySem.W.excIn K E3 [.type "ValueError", .type "Exception", .type "BaseException", .type "object"] "ValueError.__new__" = true)
    (ec3 : PySem.W.keepIn K (.ref E3) = true)
    (eh3 : PySem.W.hasDictIn K E3 = true)
    (ea4 : PySem.W.nsIn K mainGlobals "NoStep" = some (some (.ref E4)))
    (ee4 : PySem.W.typeIn K (.ref E4) = some (.type "type"))
    (eh4 : PySem.W.hasDictIn K E4 = true)
    (ea5 : PySem.W.nsIn K mainGlobals "NoRow" = some (some (.ref E5)))
    (ee5 : PySem.W.typeIn K (.ref E5) = some (.type "type"))
    (eh5 : PySem.W.hasDictIn K E5 = true)
    (ea6 : PySem.W.nsIn K mainGlobals "InOrder" = some (some (.ref E6)))
    (ee6 : PySem.W.typeIn K (.ref E6) = some (.type "type"))
    (eh6 : PySem.W.hasDictIn K E6 = true)
    (ea7 : PySem.W.nsIn K mainGlobals "TooMuch" = some (some (.ref E7)))
    (ee7 : PySem.W.typeIn K (.ref E7) = some (.type "type"))
    (eh7 : PySem.W.hasDictIn K E7 = true)
    (ea8 : PySem.W.nsIn K mainGlobals "NoTree" = some (some (.ref E8)))
    (ee8 : PySem.W.typeIn K (.ref E8) = some (.type "type"))
    (eh8 : PySem.W.hasDictIn K E8 = true)
    (ea9 : PySem.W.nsIn K mainGlobals "NoLast" = some (some (.ref E9)))
    (ee9 : PySem.W.typeIn K (.ref E9) = some (.type "type"))
    (eh9 : PySem.W.hasDictIn K E9 = true)
    (ea10 : PySem.W.nsIn K mainGlobals "Alike" = some (some (.ref E10)))
    (ee10 : PySem.W.typeIn K (.ref E10) = some (.type "type"))
    (eh10 : PySem.W.hasDictIn K E10 = true)
    (ea11 : PySem.W.nsIn K mainGlobals "NotAlike" = some (some (.ref E11)))
    (ee11 : PySem.W.typeIn K (.ref E11) = some (.type "type"))
    (eh11 : PySem.W.hasDictIn K E11 = true)
    (ea12 : PySem.W.nsIn K mainGlobals "NoHole" = some (some (.ref E12)))
    (ee12 : PySem.W.typeIn K (.ref E12) = some (.type "type"))
    (eh12 : PySem.W.hasDictIn K E12 = true)
    (ea13 : PySem.W.nsIn K mainGlobals "NoForms" = some (some (.ref E13)))
    (ee13 : PySem.W.typeIn K (.ref E13) = some (.type "type"))
    (eh13 : PySem.W.hasDictIn K E13 = true)
    (ea14 : PySem.W.nsIn K mainGlobals "NoLink" = some (some (.ref E14)))
    (ee14 : PySem.W.typeIn K (.ref E14) = some (.type "type"))
    (eh14 : PySem.W.hasDictIn K E14 = true)
    (ea15 : PySem.W.nsIn K mainGlobals "NoText" = some (some (.ref E15)))
    (ee15 : PySem.W.typeIn K (.ref E15) = some (.type "type"))
    (eh15 : PySem.W.hasDictIn K E15 = true)
    (ea16 : PySem.W.nsIn K mainGlobals "NoName" = some (some (.ref E16)))
    (ee16 : PySem.W.typeIn K (.ref E16) = some (.type "type"))
    (eh16 : PySem.W.hasDictIn K E16 = true)
    (ea17 : PySem.W.nsIn K mainGlobals "Wrong" = some (some (.ref E17)))
    (ee17 : PySem.W.typeIn K (.ref E17) = some (.type "type"))
    (ed17 : PySem.W.subIn K (.ref E17) (.type "BaseException") = some true)
    (eh17 : PySem.W.hasDictIn K E17 = true)
    (xn : PySem.W.specialIn K (.builtin "object.__class__") "__get__" = some (some (.builtin "getset_descriptor.__get__")))
    (xt : PySem.W.takesIn K (.builtin "object.__class__") = some true)
    (xg3 : PySem.W.findIn K (.ref E3) "__getattribute__" = some (some (.builtin "BaseException.__getattribute__")))
    (xk3 : PySem.W.findIn K (.ref E3) "__getattr__" = some none)
    (xa3 : PySem.W.findIn K (.ref E3) "__class__" = some (some (.builtin "object.__class__")))
    (xm3 : PySem.W.mroIn K E3 (.type "object") = some true)
    (xq3_3 : PySem.W.subIn K (.ref E3) (.ref E3) = some true)
    (xq3_1 : PySem.W.subIn K (.ref E3) (.ref E1) = some false)
    (xq3_4 : PySem.W.subIn K (.ref E3) (.ref E4) = some false)
    (xq3_5 : PySem.W.subIn K (.ref E3) (.ref E5) = some false)
    (xq3_6 : PySem.W.subIn K (.ref E3) (.ref E6) = some false)
    (xq3_2 : PySem.W.subIn K (.ref E3) (.ref E2) = some false)
    (xq3_7 : PySem.W.subIn K (.ref E3) (.ref E7) = some false)
    (xq3_0 : PySem.W.subIn K (.ref E3) (.ref E0) = some false)
    (xq3_8 : PySem.W.subIn K (.ref E3) (.ref E8) = some false)
    (xq3_9 : PySem.W.subIn K (.ref E3) (.ref E9) = some false)
    (xq3_10 : PySem.W.subIn K (.ref E3) (.ref E10) = some false)
    (xq3_11 : PySem.W.subIn K (.ref E3) (.ref E11) = some false)
    (xq3_12 : PySem.W.subIn K (.ref E3) (.ref E12) = some false)
    (xq3_13 : PySem.W.subIn K (.ref E3) (.ref E13) = some false)
    (xq3_14 : PySem.W.subIn K (.ref E3) (.ref E14) = some false)
    (xq3_15 : PySem.W.subIn K (.ref E3) (.ref E15) = some false)
    (xq3_16 : PySem.W.subIn K (.ref E3) (.ref E16) = some false)
    (xv3 : PySem.W.subIn K (.ref E3) (.type "ValueError") = some true)
    (xw3 : PySem.W.subIn K (.ref E3) (.ref E17) = some true)
    (xg1 : PySem.W.findIn K (.ref E1) "__getattribute__" = some (some (.builtin "BaseException.__getattribute__")))
    (xk1 : PySem.W.findIn K (.ref E1) "__getattr__" = some none)
    (xa1 : PySem.W.findIn K (.ref E1) "__class__" = some (some (.builtin "object.__class__")))
    (xm1 : PySem.W.mroIn K E1 (.type "object") = some true)
    (xq1_3 : PySem.W.subIn K (.ref E1) (.ref E3) = some false)
    (xq1_1 : PySem.W.subIn K (.ref E1) (.ref E1) = some true)
    (xq1_4 : PySem.W.subIn K (.ref E1) (.ref E4) = some false)
    (xq1_5 : PySem.W.subIn K (.ref E1) (.ref E5) = some false)
    (xq1_6 : PySem.W.subIn K (.ref E1) (.ref E6) = some false)
    (xq1_2 : PySem.W.subIn K (.ref E1) (.ref E2) = some false)
    (xq1_7 : PySem.W.subIn K (.ref E1) (.ref E7) = some false)
    (xq1_0 : PySem.W.subIn K (.ref E1) (.ref E0) = some false)
    (xq1_8 : PySem.W.subIn K (.ref E1) (.ref E8) = some false)
    (xq1_9 : PySem.W.subIn K (.ref E1) (.ref E9) = some false)
    (xq1_10 : PySem.W.subIn K (.ref E1) (.ref E10) = some false)
    (xq1_11 : PySem.W.subIn K (.ref E1) (.ref E11) = some false)
    (xq1_12 : PySem.W.subIn K (.ref E1) (.ref E12) = some false)
    (xq1_13 : PySem.W.subIn K (.ref E1) (.ref E13) = some false)
    (xq1_14 : PySem.W.subIn K (.ref E1) (.ref E14) = some false)
    (xq1_15 : PySem.W.subIn K (.ref E1) (.ref E15) = some false)
    (xq1_16 : PySem.W.subIn K (.ref E1) (.ref E16) = some false)
    (xv1 : PySem.W.subIn K (.ref E1) (.type "ValueError") = some true)
    (xw1 : PySem.W.subIn K (.ref E1) (.ref E17) = some true)
    (xg2 : PySem.W.findIn K (.ref E2) "__getattribute__" = some (some (.builtin "BaseException.__getattribute__")))
    (xk2 : PySem.W.findIn K (.ref E2) "__getattr__" = some none)
    (xa2 : PySem.W.findIn K (.ref E2) "__class__" = some (some (.builtin "object.__class__")))
    (xm2 : PySem.W.mroIn K E2 (.type "object") = some true)
    (xq2_3 : PySem.W.subIn K (.ref E2) (.ref E3) = some false)
    (xq2_1 : PySem.W.subIn K (.ref E2) (.ref E1) = some false)
    (xq2_4 : PySem.W.subIn K (.ref E2) (.ref E4) = some false)
    (xq2_5 : PySem.W.subIn K (.ref E2) (.ref E5) = some false)
    (xq2_6 : PySem.W.subIn K (.ref E2) (.ref E6) = some false)
    (xq2_2 : PySem.W.subIn K (.ref E2) (.ref E2) = some true)
    (xq2_7 : PySem.W.subIn K (.ref E2) (.ref E7) = some false)
    (xq2_0 : PySem.W.subIn K (.ref E2) (.ref E0) = some false)
    (xq2_8 : PySem.W.subIn K (.ref E2) (.ref E8) = some false)
    (xq2_9 : PySem.W.subIn K (.ref E2) (.ref E9) = some false)
    (xq2_10 : PySem.W.subIn K (.ref E2) (.ref E10) = some false)
    (xq2_11 : PySem.W.subIn K (.ref E2) (.ref E11) = some false)
    (xq2_12 : PySem.W.subIn K (.ref E2) (.ref E12) = some false)
    (xq2_13 : PySem.W.subIn K (.ref E2) (.ref E13) = some false)
    (xq2_14 : PySem.W.subIn K (.ref E2) (.ref E14) = some false)
    (xq2_15 : PySem.W.subIn K (.ref E2) (.ref E15) = some false)
    (xq2_16 : PySem.W.subIn K (.ref E2) (.ref E16) = some false)
    (xv2 : PySem.W.subIn K (.ref E2) (.type "ValueError") = some true)
    (xw2 : PySem.W.subIn K (.ref E2) (.ref E17) = some true)
    (xg0 : PySem.W.findIn K (.ref E0) "__getattribute__" = some (some (.builtin "BaseException.__getattribute__")))
    (xk0 : PySem.W.findIn K (.ref E0) "__getattr__" = some none)
    (xa0 : PySem.W.findIn K (.ref E0) "__class__" = some (some (.builtin "object.__class__")))
    (xm0 : PySem.W.mroIn K E0 (.type "object") = some true)
    (xq0_3 : PySem.W.subIn K (.ref E0) (.ref E3) = some false)
    (xq0_1 : PySem.W.subIn K (.ref E0) (.ref E1) = some false)
    (xq0_4 : PySem.W.subIn K (.ref E0) (.ref E4) = some false)
    (xq0_5 : PySem.W.subIn K (.ref E0) (.ref E5) = some false)
    (xq0_6 : PySem.W.subIn K (.ref E0) (.ref E6) = some false)
    (xq0_2 : PySem.W.subIn K (.ref E0) (.ref E2) = some false)
    (xq0_7 : PySem.W.subIn K (.ref E0) (.ref E7) = some false)
    (xq0_0 : PySem.W.subIn K (.ref E0) (.ref E0) = some true)
    (xq0_8 : PySem.W.subIn K (.ref E0) (.ref E8) = some false)
    (xq0_9 : PySem.W.subIn K (.ref E0) (.ref E9) = some false)
    (xq0_10 : PySem.W.subIn K (.ref E0) (.ref E10) = some false)
    (xq0_11 : PySem.W.subIn K (.ref E0) (.ref E11) = some false)
    (xq0_12 : PySem.W.subIn K (.ref E0) (.ref E12) = some false)
    (xq0_13 : PySem.W.subIn K (.ref E0) (.ref E13) = some false)
    (xq0_14 : PySem.W.subIn K (.ref E0) (.ref E14) = some false)
    (xq0_15 : PySem.W.subIn K (.ref E0) (.ref E15) = some false)
    (xq0_16 : PySem.W.subIn K (.ref E0) (.ref E16) = some false)
    (xv0 : PySem.W.subIn K (.ref E0) (.type "ValueError") = some true)
    (xw0 : PySem.W.subIn K (.ref E0) (.ref E17) = some true)
    (z0 : PySem.W.nsIn K mainGlobals "ValueError" = some none)
    (z1 : PySem.W.nsIn K mainGlobals "all" = some none)
    (z2 : PySem.W.nsIn K mainGlobals "bool" = some none)
    (z3 : PySem.W.nsIn K mainGlobals "enumerate" = some none)
    (z4 : PySem.W.nsIn K mainGlobals "int" = some none)
    (z5 : PySem.W.nsIn K mainGlobals "isinstance" = some none)
    (z6 : PySem.W.nsIn K mainGlobals "len" = some none)
    (z7 : PySem.W.nsIn K mainGlobals "list" = some none)
    (z8 : PySem.W.nsIn K mainGlobals "range" = some none)
    (z9 : PySem.W.nsIn K mainGlobals "sum" = some none)
    (z10 : PySem.W.nsIn K mainGlobals "tuple" = some none)
    (z11 : PySem.W.nsIn K mainGlobals "zip" = some none)
    (ne28_30 : lp28 ≠ lp30)
    : LamX.LawAtS l w K (L2.CX l.prog w) 12 63 "_law_script" mg fa h := by
  obtain ⟨T, e1, e2, ec28, ep28, ec30, ep30⟩ := txt_mk X G a0 l0 c0 k0 a1 l1 c1 k1 a2 l2 c2 k2 a3 l3 c3 k3 a4 l4 c4 k4 a5 l5 c5 k5 a6 l6 c6 k6 a7 l7 c7 k7 a8 l8 c8 k8 a9 l9 c9 k9 a10 l10 c10 k10 a11 l11 c11 k11 a12 l12 c12 k12 a13 l13 c13 k13 a14 l14 c14 k14 a15 l15 c15 k15 a16 l16 c16 k16 a17 l17 c17 k17 a18 l18 c18 k18 a19 l19 c19 k19 a20 l20 c20 k20 a21 l21 c21 k21 a22 l22 c22 k22 a23 l23 c23 k23 a24 l24 c24 k24 a25 l25 c25 k25 a26 l26 c26 k26 a27 l27 c27 k27 a28 l28 c28 k28 lt28 lq28 ln28 a29 l29 c29 k29 a30 l30 c30 k30 lt30 lq30 ln30 a31 l31 c31 k31 a32 l32 c32 k32 v0 v1 v2 v3 v4 ea0 ee0 ed0 eb0 ec0 eh0 ea1 ee1 ed1 eb1 ec1 eh1 ea2 ee2 ed2 eb2 ec2 eh2 ea3 ee3 ed3 eb3 ec3 eh3 ea4 ee4 eh4 ea5 ee5 eh5 ea6 ee6 eh6 ea7 ee7 eh7 ea8 ee8 eh8 ea9 ee9 eh9 ea10 ee10 eh10 ea11 ee11 eh11 ea12 ee12 eh12 ea13 ee13 eh13 ea14 ee14 eh14 ea15 ee15 eh15 ea16 ee16 eh16 ea17 ee17 ed17 eh17 xn xt xg3 xk3 xa3 xm3 xq3_3 xq3_1 xq3_4 xq3_5 xq3_6 xq3_2 xq3_7 xq3_0 xq3_8 xq3_9 xq3_10 xq3_11 xq3_12 xq3_13 xq3_14 xq3_15 xq3_16 xv3 xw3 xg1 xk1 xa1 xm1 xq1_3 xq1_1 xq1_4 xq1_5 xq1_6 xq1_2 xq1_7 xq1_0 xq1_8 xq1_9 xq1_10 xq1_11 xq1_12 xq1_13 xq1_14 xq1_15 xq1_16 xv1 xw1 xg2 xk2 xa2 xm2 xq2_3 xq2_1 xq2_4 xq2_5 xq2_6 xq2_2 xq2_7 xq2_0 xq2_8 xq2_9 xq2_10 xq2_11 xq2_12 xq2_13 xq2_14 xq2_15 xq2_16 xv2 xw2 xg0 xk0 xa0 xm0 xq0_3 xq0_1 xq0_4 xq0_5 xq0_6 xq0_2 xq0_7 xq0_0 xq0_8 xq0_9 xq0_10 xq0_11 xq0_12 xq0_13 xq0_14 xq0_15 xq0_16 xv0 xw0 z0 z1 z2 z3 z4 z5 z6 z7 z8 z9 z10 z11
  have e := hfa.symm.trans (PySem.W.mg_of X G a30)
  cases e
  have dt28 := tabs "_law_right" (List.Mem.head _) _ lc28 lp28 _ _ _ _ _ _ (PySem.W.mg_of X G a28) l28 rfl rfl lt28 lq28
  have dt30 := tabs "law" (List.Mem.tail _ (List.Mem.head _)) _ lc30 lp30 _ _ _ _ _ _ (PySem.W.mg_of X G a30) l30 rfl rfl lt30 lq30
  refine ⟨T.d_law, [(lc28, lp28), (lc30, lp30)], spLaw K [(lp28, ((("_law_right" : Str) ++ ".<locals>.") ++ "<lambda>" : Str)), (lp30, ((("law" : Str) ++ ".<locals>.") ++ "<lambda>" : Str))], ?_, ?_, ?_, fun s u => by rw [e2]; exact .of_eq rfl, fun H a ns hl _ hH hS => ⟨a, ns, rfl, hS, hl, ?_, fun _ => rfl⟩, fun base _ _ TB => e1 ▸ ok_all T ⟨by rw [ec28, ep28]; exact TB (lc28, lp28) (List.Mem.head _), by rw [ep28]; exact (List.Mem.head _), by rw [ep28]; intro p hp; simp only [List.mem_cons, List.mem_nil_iff, or_false] at hp; rcases hp with rfl | rfl <;> intro e <;> first | (exact absurd e (by first | assumption | (apply Ne.symm; assumption))) | rfl, by rw [ec30, ep30]; exact TB (lc30, lp30) (List.Mem.tail _ (List.Mem.head _)), by rw [ep30]; exact (List.Mem.tail _ (List.Mem.head _)), by rw [ep30]; intro p hp; simp only [List.mem_cons, List.mem_nil_iff, or_false] at hp; rcases hp with rfl | rfl <;> intro e <;> first | (exact absurd e (by first | assumption | (apply Ne.symm; assumption))) | rfl⟩⟩
  · intro p hp; simp only [List.mem_cons, List.mem_nil_iff, or_false] at hp; rcases hp with rfl | rfl
    · exact dt28.1
    · exact dt30.1
  · intro p hp; simp only [List.mem_cons, List.mem_nil_iff, or_false] at hp; rcases hp with rfl | rfl
    · exact ln28
    · exact ln30
  · intro p hp; simp only [List.mem_cons, List.mem_nil_iff, or_false] at hp; rcases hp with rfl | rfl
    · exact dt28.2
    · exact dt30.2
  · intro p hp; simp only [List.mem_cons, List.mem_nil_iff, or_false] at hp; rcases hp with rfl | rfl
    · exact LamX.TabS.nil (hH (lc28, lp28) (List.Mem.head _))
    · exact LamX.TabS.nil (hH (lc30, lp30) (List.Mem.tail _ (List.Mem.head _)))
end Law
open PySem PySem.W PyProof.Rows
set_option maxHeartbeats 0 in
theorem PySem.Challenge.cw_rowapart_k30_undone_holds : PySem.Challenge.rw_rowapart_k30_undone.Holds := by
  w_on; o_law; k_head; (case hw => w_witness2)
  k_fill
  refine S.walk_defs (l := PySem.Challenge.rw_rowapart_k30_undone) (n := 63) (k := 12) (x := "_law_script") (CX := fun w => L2.CX PySem.Challenge.rw_rowapart_k30_undone.prog w) ["_law_right", "law"] rfl (by decide) rfl ⟨rfl, by decide, by decide⟩ (by intro y hy; simp only [List.mem_cons, List.mem_nil_iff, or_false] at hy; rcases hy with rfl | rfl <;> rfl) (fun w h Y => by first | exact PySem.W.km_in_of Y | exact PySem.W.kIn_of Y) ?F (fun _ _ _ _ _ h => S.cx_none h)
  case F =>
    intro w mg fa h Y KX G hmg tabs
    refine' Law.txt_end KX G hmg tabs ?a0 ?l0 ?c0 ?k0 ?a1 ?l1 ?c1 ?k1 ?a2 ?l2 ?c2 ?k2 ?a3 ?l3 ?c3 ?k3 ?a4 ?l4 ?c4 ?k4 ?a5 ?l5 ?c5 ?k5 ?a6 ?l6 ?c6 ?k6 ?a7 ?l7 ?c7 ?k7 ?a8 ?l8 ?c8 ?k8 ?a9 ?l9 ?c9 ?k9 ?a10 ?l10 ?c10 ?k10 ?a11 ?l11 ?c11 ?k11 ?a12 ?l12 ?c12 ?k12 ?a13 ?l13 ?c13 ?k13 ?a14 ?l14 ?c14 ?k14 ?a15 ?l15 ?c15 ?k15 ?a16 ?l16 ?c16 ?k16 ?a17 ?l17 ?c17 ?k17 ?a18 ?l18 ?c18 ?k18 ?a19 ?l19 ?c19 ?k19 ?a20 ?l20 ?c20 ?k20 ?a21 ?l21 ?c21 ?k21 ?a22 ?l22 ?c22 ?k22 ?a23 ?l23 ?c23 ?k23 ?a24 ?l24 ?c24 ?k24 ?a25 ?l25 ?c25 ?k25 ?a26 ?l26 ?c26 ?k26 ?a27 ?l27 ?c27 ?k27 ?a28 ?l28 ?c28 ?k28 ?lt28 ?lq28 ?ln28 ?a29 ?l29 ?c29 ?k29 ?a30 ?l30 ?c30 ?k30 ?lt30 ?lq30 ?ln30 ?a31 ?l31 ?c31 ?k31 ?a32 ?l32 ?c32 ?k32 ?v0 ?v1 ?v2 ?v3 ?v4 ?ea0 ?ee0 ?ed0 ?eb0 ?ec0 ?eh0 ?ea1 ?ee1 ?ed1 ?eb1 ?ec1 ?eh1 ?ea2 ?ee2 ?ed2 ?eb2 ?ec2 ?eh2 ?ea3 ?ee3 ?ed3 ?eb3 ?ec3 ?eh3 ?ea4 ?ee4 ?eh4 ?ea5 ?ee5 ?eh5 ?ea6 ?ee6 ?eh6 ?ea7 ?ee7 ?eh7 ?ea8 ?ee8 ?eh8 ?ea9 ?ee9 ?eh9 ?ea10 ?ee10 ?eh10 ?ea11 ?ee11 ?eh11 ?ea12 ?ee12 ?eh12 ?ea13 ?ee13 ?eh13 ?ea14 ?ee14 ?eh14 ?ea15 ?ee15 ?eh15 ?ea16 ?ee16 ?eh16 ?ea17 ?ee17 ?ed17 ?eh17 ?xn ?xt ?xg3 ?xk3 ?xa3 ?xm3 ?xq3_3 ?xq3_1 ?xq3_4 ?xq3_5 ?xq3_6 ?xq3_2 ?xq3_7 ?xq3_0 ?xq3_8 ?xq3_9 ?xq3_10 ?xq3_11 ?xq3_12 ?xq3_13 ?xq3_14 ?xq3_15 ?xq3_16 ?xv3 ?xw3 ?xg1 ?xk1 ?xa1 ?xm1 ?xq1_3 ?xq1_1 ?xq1_4 ?xq1_5 ?xq1_6 ?xq1_2 ?xq1_7 ?xq1_0 ?xq1_8 ?xq1_9 ?xq1_10 ?xq1_11 ?xq1_12 ?xq1_13 ?xq1_14 ?xq1_15 ?xq1_16 ?xv1 ?xw1 ?xg2 ?xk2 ?xa2 ?xm2 ?xq2_3 ?xq2_1 ?xq2_4 ?xq2_5 ?xq2_6 ?xq2_2 ?xq2_7 ?xq2_0 ?xq2_8 ?xq2_9 ?xq2_10 ?xq2_11 ?xq2_12 ?xq2_13 ?xq2_14 ?xq2_15 ?xq2_16 ?xv2 ?xw2 ?xg0 ?xk0 ?xa0 ?xm0 ?xq0_3 ?xq0_1 ?xq0_4 ?xq0_5 ?xq0_6 ?xq0_2 ?xq0_7 ?xq0_0 ?xq0_8 ?xq0_9 ?xq0_10 ?xq0_11 ?xq0_12 ?xq0_13 ?xq0_14 ?xq0_15 ?xq0_16 ?xv0 ?xw0 ?z0 ?z1 ?z2 ?z3 ?z4 ?z5 ?z6 ?z7 ?z8 ?z9 ?z10 ?z11 ?ne28_30
    (case a0 => k_is); (case l0 => k_is); (case c0 => k_is); (case k0 => k_is); (case a1 => k_is); (case l1 => k_is); (case c1 => k_is); (case k1 => k_is); (case a2 => k_is); (case l2 => k_is); (case c2 => k_is); (case k2 => k_is); (case a3 => k_is); (case l3 => k_is); (case c3 => k_is); (case k3 => k_is); (case a4 => k_is); (case l4 => k_is); (case c4 => k_is); (case k4 => k_is); (case a5 => k_is); (case l5 => k_is); (case c5 => k_is); (case k5 => k_is); (case a6 => k_is); (case l6 => k_is); (case c6 => k_is); (case k6 => k_is); (case a7 => k_is); (case l7 => k_is); (case c7 => k_is); (case k7 => k_is); (case a8 => k_is); (case l8 => k_is); (case c8 => k_is); (case k8 => k_is); (case a9 => k_is); (case l9 => k_is); (case c9 => k_is); (case k9 => k_is); (case a10 => k_is); (case l10 => k_is); (case c10 => k_is); (case k10 => k_is); (case a11 => k_is); (case l11 => k_is); (case c11 => k_is); (case k11 => k_is); (case a12 => k_is); (case l12 => k_is); (case c12 => k_is); (case k12 => k_is); (case a13 => k_is); (case l13 => k_is); (case c13 => k_is); (case k13 => k_is); (case a14 => k_is); (case l14 => k_is); (case c14 => k_is); (case k14 => k_is); (case a15 => k_is); (case l15 => k_is); (case c15 => k_is); (case k15 => k_is); (case a16 => k_is); (case l16 => k_is); (case c16 => k_is); (case k16 => k_is); (case a17 => k_is); (case l17 => k_is); (case c17 => k_is); (case k17 => k_is); (case a18 => k_is); (case l18 => k_is); (case c18 => k_is); (case k18 => k_is); (case a19 => k_is); (case l19 => k_is); (case c19 => k_is); (case k19 => k_is); (case a20 => k_is); (case l20 => k_is); (case c20 => k_is); (case k20 => k_is); (case a21 => k_is); (case l21 => k_is); (case c21 => k_is); (case k21 => k_is); (case a22 => k_is); (case l22 => k_is); (case c22 => k_is); (case k22 => k_is); (case a23 => k_is); (case l23 => k_is); (case c23 => k_is); (case k23 => k_is); (case a24 => k_is); (case l24 => k_is); (case c24 => k_is); (case k24 => k_is); (case a25 => k_is); (case l25 => k_is); (case c25 => k_is); (case k25 => k_is); (case a26 => k_is); (case l26 => k_is); (case c26 => k_is); (case k26 => k_is); (case a27 => k_is); (case l27 => k_is); (case c27 => k_is); (case k27 => k_is); (case a28 => k_is); (case l28 => k_is); (case c28 => k_is); (case k28 => k_is); (case lt28 => k_is); (case lq28 => rfl); (case ln28 => first | rfl | decide | (decide +kernel)); (case a29 => k_is); (case l29 => k_is); (case c29 => k_is); (case k29 => k_is); (case a30 => k_is); (case l30 => k_is); (case c30 => k_is); (case k30 => k_is); (case lt30 => k_is); (case lq30 => rfl); (case ln30 => first | rfl | decide | (decide +kernel)); (case a31 => k_is); (case l31 => k_is); (case c31 => k_is); (case k31 => k_is); (case a32 => k_is); (case l32 => k_is); (case c32 => k_is); (case k32 => k_is); (case v0 => k_is); (case v1 => k_is); (case v2 => k_is); (case v3 => k_is); (case v4 => k_is); (case ea0 => k_is); (case ee0 => k_is); (case ed0 => k_is); (case eb0 => first | k_exc | rfl); (case ec0 => k_is); (case eh0 => k_is); (case ea1 => k_is); (case ee1 => k_is); (case ed1 => k_is); (case eb1 => first | k_exc | rfl); (case ec1 => k_is); (case eh1 => k_is); (case ea2 => k_is); (case ee2 => k_is); (case ed2 => k_is); (case eb2 => first | k_exc | rfl); (case ec2 => k_is); (case eh2 => k_is); (case ea3 => k_is); (case ee3 => k_is); (case ed3 => k_is); (case eb3 => first | k_exc | rfl); (case ec3 => k_is); (case eh3 => k_is); (case ea4 => k_is); (case ee4 => k_is); (case eh4 => k_is); (case ea5 => k_is); (case ee5 => k_is); (case eh5 => k_is); (case ea6 => k_is); (case ee6 => k_is); (case eh6 => k_is); (case ea7 => k_is); (case ee7 => k_is); (case eh7 => k_is); (case ea8 => k_is); (case ee8 => k_is); (case eh8 => k_is); (case ea9 => k_is); (case ee9 => k_is); (case eh9 => k_is); (case ea10 => k_is); (case ee10 => k_is); (case eh10 => k_is); (case ea11 => k_is); (case ee11 => k_is); (case eh11 => k_is); (case ea12 => k_is); (case ee12 => k_is); (case eh12 => k_is); (case ea13 => k_is); (case ee13 => k_is); (case eh13 => k_is); (case ea14 => k_is); (case ee14 => k_is); (case eh14 => k_is); (case ea15 => k_is); (case ee15 => k_is); (case eh15 => k_is); (case ea16 => k_is); (case ee16 => k_is); (case eh16 => k_is); (case ea17 => k_is); (case ee17 => k_is); (case ed17 => k_is); (case eh17 => k_is); (case xn => k_is); (case xt => k_is); (case xg3 => k_is); (case xk3 => k_is); (case xa3 => k_is); (case xm3 => k_is); (case xq3_3 => k_is); (case xq3_1 => k_is); (case xq3_4 => k_is); (case xq3_5 => k_is); (case xq3_6 => k_is); (case xq3_2 => k_is); (case xq3_7 => k_is); (case xq3_0 => k_is); (case xq3_8 => k_is); (case xq3_9 => k_is); (case xq3_10 => k_is); (case xq3_11 => k_is); (case xq3_12 => k_is); (case xq3_13 => k_is); (case xq3_14 => k_is); (case xq3_15 => k_is); (case xq3_16 => k_is); (case xv3 => k_is); (case xw3 => k_is); (case xg1 => k_is); (case xk1 => k_is); (case xa1 => k_is); (case xm1 => k_is); (case xq1_3 => k_is); (case xq1_1 => k_is); (case xq1_4 => k_is); (case xq1_5 => k_is); (case xq1_6 => k_is); (case xq1_2 => k_is); (case xq1_7 => k_is); (case xq1_0 => k_is); (case xq1_8 => k_is); (case xq1_9 => k_is); (case xq1_10 => k_is); (case xq1_11 => k_is); (case xq1_12 => k_is); (case xq1_13 => k_is); (case xq1_14 => k_is); (case xq1_15 => k_is); (case xq1_16 => k_is); (case xv1 => k_is); (case xw1 => k_is); (case xg2 => k_is); (case xk2 => k_is); (case xa2 => k_is); (case xm2 => k_is); (case xq2_3 => k_is); (case xq2_1 => k_is); (case xq2_4 => k_is); (case xq2_5 => k_is); (case xq2_6 => k_is); (case xq2_2 => k_is); (case xq2_7 => k_is); (case xq2_0 => k_is); (case xq2_8 => k_is); (case xq2_9 => k_is); (case xq2_10 => k_is); (case xq2_11 => k_is); (case xq2_12 => k_is); (case xq2_13 => k_is); (case xq2_14 => k_is); (case xq2_15 => k_is); (case xq2_16 => k_is); (case xv2 => k_is); (case xw2 => k_is); (case xg0 => k_is); (case xk0 => k_is); (case xa0 => k_is); (case xm0 => k_is); (case xq0_3 => k_is); (case xq0_1 => k_is); (case xq0_4 => k_is); (case xq0_5 => k_is); (case xq0_6 => k_is); (case xq0_2 => k_is); (case xq0_7 => k_is); (case xq0_0 => k_is); (case xq0_8 => k_is); (case xq0_9 => k_is); (case xq0_10 => k_is); (case xq0_11 => k_is); (case xq0_12 => k_is); (case xq0_13 => k_is); (case xq0_14 => k_is); (case xq0_15 => k_is); (case xq0_16 => k_is); (case xv0 => k_is); (case xw0 => k_is); (case z0 => k_is); (case z1 => k_is); (case z2 => k_is); (case z3 => k_is); (case z4 => k_is); (case z5 => k_is); (case z6 => k_is); (case z7 => k_is); (case z8 => k_is); (case z9 => k_is); (case z10 => k_is); (case z11 => k_is); (case ne28_30 => decide)
