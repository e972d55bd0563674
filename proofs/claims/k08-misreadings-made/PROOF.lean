import PyProof.Rows.All
import Wide.All
import OpenK.AllK
import Wide.FinOn
import KE.KExcSuper
import HandS.ForExc
import HandS.ExcInit
import HandS.ForMost
import HandS.ExcValue
import HandS.IsInst
import KE.KExcIs
import HandS.ExcCtx
import HandS.HotCalls
import KE.KExcMake
import PyProof.ReprRoads
import HandS.Walk
import HandS.Lambda
import HandS.Style
import HandS.RaiseMore
import PyProof.Rows.StrMeet
import HandS.DictComp
import KE.KDictOf
import HandS.SetTxt0
import HandS.SetFor
import HandS.Strs
import PyProof.StrWalks
import PyProof.FactsAll.subtypes_3
import PyProof.Rows.SortShellAny
import HandS.Flow
import HandS.FStr
import HandS.More
import HandS.Conv
import PyProof.ListStr
import PyProof.InstEq
import HandS.IterVal
import KE.KOwnIter
import PyProof.FactsAll.tuple_iterator_1
import HandS.MakeKw
import HandS.MakeKwOnly
import HandS.ClsMeth
import KE.KCallOwn
import PySem.Challenge.RW_blindrepair_k08_misreadings_made
import KE.KEqDict
import KE.DataEq
set_option Elab.async false
set_option linter.all false
set_option maxRecDepth 100000
set_option maxHeartbeats 4000000
namespace BR
open PySem PySem.W PySem.Calls PyProof.Rows
/-- the module's two name tables, as the frame sees them -/
structure Two (mg : Str → Option Value) (h : Heap) : Prop where
  g : h.Ns mainGlobals mg
  b : ∃ mb, h.Ns builtinsNs mb ∧ mb "super" = some (.type "super")
theorem Two.keeps {mg : Str → Option Value} {h h' : Heap} (t : Two mg h) (k : ∀ b o, h.get? b = some o → h'.get? b = some o) : Two mg h' :=
  ⟨t.g.keeps k, let ⟨mb, h1, h2⟩ := t.b; ⟨mb, h1.keeps k, h2⟩⟩
end BR
namespace BR
open PySem PySem.Spec PyProof.Rows L2
def kD : Key → PyData
  | .inl i => .int i
  | .inr x => .str x
section
variable {P : Program} {w : World} {H : Hp} {h : Heap}
theorem key_reads {k : Key} {v : Value} (e : keyIs k v = true) : Reads h v (kD k) [] := by
  rcases keyIs_shape e with ⟨i, t, rfl, rfl⟩ | ⟨x, t, rfl, rfl⟩
  · exact .int i t
  · exact .str x t
theorem pairs_reads {knd : KeyKind P w Key} (hk : ∀ k v, knd.is k v = true → keyIs k v = true) : ∀ {es : List DictEntry} {vs : List (Key × Value)}, Pairs knd es vs →
    ReadsAll h (es.map (·.key)) (vs.map fun p => kD p.1) [] ∧ es.map (·.val) = vs.map (·.2)
  | _, _, .nil => ⟨.nil, rfl⟩
  | _, _, .cons h1 h2 r => by
    obtain ⟨q1, q2⟩ := pairs_reads hk r
    refine ⟨?_, ?_⟩
    · rw [List.map_cons, List.map_cons]
      exact ReadsAll.cons (as := []) (bs := []) (key_reads (hk _ _ h1)) q1
    · rw [List.map_cons, List.map_cons, h2, q2]
theorem kv_split : ∀ {kvs : List (Key × V)} {vs : List (Key × Value)}, KV kvs vs → (vs.map fun p => kD p.1) = (kvs.map fun p => kD p.1) ∧ Vals (kvs.map (·.2)) (vs.map (·.2))
  | _, _, .nil => ⟨rfl, .nil⟩
  | _, _, .cons e r => by
    obtain ⟨q1, q2⟩ := kv_split r
    exact ⟨by rw [List.map_cons, List.map_cons, q1, e.1], .cons e.2 q2⟩
end
end BR
namespace BD
open PySem PySem.Spec PyProof.Rows L2
abbrev St := L2.St
inductive Dat where
  | non | bl (b : Bool) | int (i : Int) | str (x : Str) | lst (xs : List Dat) | tup (xs : List Dat) | dic (ks : List (Key × Dat)) | ins (C : Addr) (fs : List (Str × Dat)) | pen | bor (ks : List (Key × Dat))
structure Pen where
  ns : List Int
  i : Int
  g : Int
  T : List (Addr × Str)
/-- a slot: nothing told, plain data, a list, a dict, an instance that only this slot holds -/
inductive DV where
  | no | d (x : Dat) | ol (xs : List Dat) | od (ks : List (Key × Dat)) | oi (x C : Addr) (fs : List (Str × Dat))
structure DSt where
  env : List DV
  pen : Pen
inductive Out (α : Type) where
  | ok (a : α) (s : DSt) | ex (C : Addr) (fs : List (Str × Dat)) (p : Pen) | no
def Out.bind {α β : Type} (o : Out α) (k : α → DSt → Out β) : Out β := match o with
  | .ok a s => k a s
  | .ex C fs p => .ex C fs p
  | .no => .no
inductive OutS where
  | nx (s : DSt) | rt (d : Dat) (p : Pen) | bk (s : DSt) | ct (s : DSt) | ex (C : Addr) (fs : List (Str × Dat)) (p : Pen) | no
inductive OutF where
  | ok (d : Dat) (p : Pen) | ex (C : Addr) (fs : List (Str × Dat)) (p : Pen) | no
def LsO (O : List Addr) (H : Hp) (a : Addr) (xs : List V) : Prop := a ∉ O ∧ H a = some (.lst xs)
def TpO (K : PySem.W.Frag) (O : List Addr) (H : Hp) (a : Addr) (xs : List V) : Prop := (a ∉ O ∧ Rd H a (.tup xs)) ∨
  ∃ (o : Obj) (its : Array Value) (n : Nat), K.lookup a = some o ∧ o.cls = .type "tuple" ∧ o.data = .seq its n ∧ its.size ≤ sizeLine ∧ Vals xs its.toList
section
variable {K : PySem.W.Frag} {O O' : List Addr} {H H' : Hp} {a : Addr} {xs : List V}
theorem LsO.sq (h : LsO O H a xs) : SqL K H a xs := .of h.2
theorem TpO.sq (h : TpO K O H a xs) : SqT K H a xs := h.elim (fun x => .inl x.2) .inr
end
mutual
inductive Rp (K : PySem.W.Frag) (P : Addr) (O : List Addr) (H : Hp) : V → Dat → Prop
  | non : Rp K P O H .non .non
  | bl (b : Bool) : Rp K P O H (.bl b) (.bl b)
  | int (i : Int) : Rp K P O H (.int i) (.int i)
  | str (x : Str) : Rp K P O H (.str x) (.str x)
  | lst {a : Addr} {vs : List V} {xs : List Dat} (s : LsO O H a vs) (r : Rps K P O H vs xs) : Rp K P O H (.ref a) (.lst xs)
  | tup {a : Addr} {vs : List V} {xs : List Dat} (s : TpO K O H a vs) (r : Rps K P O H vs xs) : Rp K P O H (.ref a) (.tup xs)
  | dic {a : Addr} {kvs : List (Key × V)} {ks : List (Key × Dat)} (n : a ∉ O) (s : ∃ o, H a = some (.frz o (.dK kvs))) (e : kvs.map (·.1) = ks.map (·.1)) (r : Rps K P O H (kvs.map (·.2)) (ks.map (·.2))) : Rp K P O H (.ref a) (.dic ks)
  | ins {a C dx : Addr} {vfs : List (Str × V)} {fs : List (Str × Dat)} (n : a ∉ O) (s : H a = some (.ins C dx vfs)) (e : vfs.map (·.1) = fs.map (·.1)) (r : Rps K P O H (vfs.map (·.2)) (fs.map (·.2))) : Rp K P O H (.ref a) (.ins C fs)
  | pen : Rp K P O H (.ref P) .pen
  | bor {a : Addr} {kvs : List (Key × V)} {ks : List (Key × Dat)} (s : ∃ o, H a = some (.frz o (.dK kvs))) (e : kvs.map (·.1) = ks.map (·.1)) (r : Rps K P O H (kvs.map (·.2)) (ks.map (·.2))) : Rp K P O H (.ref a) (.bor ks)
inductive Rps (K : PySem.W.Frag) (P : Addr) (O : List Addr) (H : Hp) : List V → List Dat → Prop
  | nil : Rps K P O H [] []
  | cons {v : V} {x : Dat} {vs : List V} {xs : List Dat} (h : Rp K P O H v x) (t : Rps K P O H vs xs) : Rps K P O H (v :: vs) (x :: xs)
end
/-- what is frozen stays -/
def Stl : HO → Prop
  | .frz _ _ => True
  | .ext _ => True
  | _ => False
def Fz (H H' : Hp) : Prop := ∀ a o, Stl o → H a = some o → H' a = some o
theorem Fz.refl {H : Hp} : Fz H H := fun _ _ _ e => e
theorem Fz.trans {H H' H2 : Hp} (x : Fz H H') (y : Fz H' H2) : Fz H H2 := fun a o u e => y a o u (x a o u e)
/-- what may be written anew: no still thing, no table -/
def Loose : Option HO → Prop
  | some (.frz _ _) => False
  | some (.ext _) => False
  | some (.tbl _) => False
  | _ => True
theorem Fz.upd {H : Hp} {a : Addr} {o : HO} (h : Loose (H a)) : Fz H (upd H a o) := fun b q u e => by
  rw [upd_ne (fun z => by
    subst z
    rw [e] at h
    cases q <;> first | exact h | exact u)]
  exact e
theorem Loose.none {x : Option HO} (h : x = none) : Loose x := by rw [h]; exact True.intro
theorem Loose.lst {x : Option HO} {xs : List V} (h : x = some (.lst xs)) : Loose x := by rw [h]; exact True.intro
theorem Loose.dK {x : Option HO} {xs : List (Key × V)} (h : x = some (.dK xs)) : Loose x := by rw [h]; exact True.intro
theorem Loose.ins {x : Option HO} {C dx : Addr} {xs : List (Str × V)} (h : x = some (.ins C dx xs)) : Loose x := by rw [h]; exact True.intro
theorem Loose.stl {x : Option HO} {o : HO} (h : Loose x) (e : x = some o) (s : Stl o) : False := by
  rw [e] at h
  cases o <;> first | exact h | exact s
theorem Loose.tbl {x : Option HO} {ps : Array Value} (h : Loose x) (e : x = some (.tbl ps)) : False := by
  rw [e] at h
  exact h
theorem Fz.new {H : Hp} {a : Addr} {o : HO} (h : H a = none) : Fz H (L2.upd H a o) := Fz.upd (.none h)
/-- the tables stay -/
def Tb (H H' : Hp) : Prop := ∀ a ps, H a = some (.tbl ps) → H' a = some (.tbl ps)
theorem Tb.refl {H : Hp} : Tb H H := fun _ _ e => e
theorem Tb.upd {H : Hp} {a : Addr} {o : HO} (h : Loose (H a)) : Tb H (L2.upd H a o) := fun b ps e => by
  rw [upd_ne (fun z => by
    subst z
    rw [e] at h
    exact h)]
  exact e
/-- a thing, later: it stays; a table stays a table -/
def Ke (o : HO) (x : Option HO) : Prop := x = some o ∨ (∃ ps, o = .tbl ps) ∧ ∃ ps, x = some (.tbl ps)
theorem Ke.ne {o : HO} {x : Option HO} (h : Ke o x) : x ≠ none := fun z => by
  rcases h with h | ⟨_, _, h⟩ <;> rw [z] at h <;> cases h
theorem Ke.nt {o : HO} {x : Option HO} (h : Ke o x) (n : ∀ ps, o ≠ .tbl ps := by intro _ z; cases z) : x = some o := h.elim id fun ⟨⟨ps, e⟩, _⟩ => (n ps e).elim
theorem Ke.trans {o : HO} {x y : Option HO} (h : Ke o x) (k : ∀ u, x = some u → Ke u y) : Ke o y := by
  rcases h with h | ⟨h1, ps, h2⟩
  · exact k o h
  · rcases k _ h2 with e | ⟨_, q⟩
    · exact .inr ⟨h1, ps, e⟩
    · exact .inr ⟨h1, q⟩
theorem _root_.LamX.Tabs.still {T : List (Addr × Str)} {H H' : Hp} (t : LamX.Tabs T H) (f : Fz H H') (b : Tb H H') : LamX.Tabs T H' := fun p hp => by
  obtain ⟨ps, h1, h2, h3⟩ := t p hp
  exact ⟨ps, b _ _ h1, h2, fun pos cv hc => let ⟨c, e1, e2⟩ := h3 pos cv hc; ⟨c, e1, f _ _ True.intro e2⟩⟩
/-- what is not owned stays -/
def Kp (O : List Addr) (H H' : Hp) : Prop := (∀ a, a ∉ O → ∀ o, H a = some o → Ke o (H' a)) ∧ Fz H H'
/-- .. with what is owned told anew -/
def Kr (O O' : List Addr) (H H' : Hp) : Prop := (∀ a, a ∉ O → ∀ o, H a = some o → a ∉ O' ∧ Ke o (H' a)) ∧ Fz H H'
theorem Kr.rd {O O' : List Addr} {H H' : Hp} {a : Addr} {u : HO} (k : Kr O O' H H') (n : a ∉ O) (r : Rd H a u) (nt : ∀ ps, u ≠ .tbl ps := by intro _ z; cases z) : a ∉ O' ∧ Rd H' a u :=
  r.elim (fun e => ⟨(k.1 a n _ e).1, .inl ((k.1 a n _ e).2.nt nt)⟩) fun ⟨o, e⟩ => ⟨(k.1 a n _ e).1, .inr ⟨o, (k.1 a n _ e).2.nt⟩⟩
section
variable {K : PySem.W.Frag} {P : Addr} {O O' O1 : List Addr} {H H' H1 : Hp} {a : Addr} {v : V} {d : Dat} {vs : List V} {ds : List Dat}
mutual
theorem Rp.kr (k : Kr O O' H H') : ∀ {v : V} {d : Dat}, Rp K P O H v d → Rp K P O' H' v d
  | _, _, .non => .non
  | _, _, .bl b => .bl b
  | _, _, .int i => .int i
  | _, _, .str x => .str x
  | _, _, .lst s r => .lst ⟨(k.1 _ s.1 _ s.2).1, (k.1 _ s.1 _ s.2).2.nt⟩ (Rps.kr k r)
  | _, _, .tup s r => .tup (s.elim (fun x => .inl (k.rd x.1 x.2)) .inr) (Rps.kr k r)
  | _, _, .dic n ⟨o, s⟩ e r => .dic (k.1 _ n _ s).1 ⟨o, (k.1 _ n _ s).2.nt⟩ e (Rps.kr k r)
  | _, _, .ins n s e r => .ins (k.1 _ n _ s).1 (k.1 _ n _ s).2.nt e (Rps.kr k r)
  | _, _, .pen => .pen
  | _, _, .bor ⟨o, s⟩ e r => .bor ⟨o, k.2 _ _ True.intro s⟩ e (Rps.kr k r)
theorem Rps.kr (k : Kr O O' H H') : ∀ {vs : List V} {ds : List Dat}, Rps K P O H vs ds → Rps K P O' H' vs ds
  | _, _, .nil => .nil
  | _, _, .cons h t => .cons (Rp.kr k h) (Rps.kr k t)
end
theorem Kp.kr (k : Kp O H H') : Kr O O H H' := ⟨fun a n o e => ⟨n, k.1 a n o e⟩, k.2⟩
theorem Kr.anti (h : ∀ a ∈ O', a ∈ O) : Kr O O' H H := ⟨fun a n o e => ⟨fun z => n (h a z), .inl e⟩, .refl⟩
theorem Kr.new (h : H a = none) : Kr O (a :: O) H H := ⟨fun b n o e => ⟨fun z => by
    rcases List.mem_cons.mp z with rfl | z
    · rw [h] at e; cases e
    · exact n z, .inl e⟩, .refl⟩
theorem Rp.kp (r : Rp K P O H v d) (k : Kp O H H') : Rp K P O H' v d := r.kr k.kr
theorem Rps.kp (r : Rps K P O H vs ds) (k : Kp O H H') : Rps K P O H' vs ds := r.kr k.kr
theorem Rp.anti (r : Rp K P O H v d) (h : ∀ a ∈ O', a ∈ O) : Rp K P O' H v d := r.kr (.anti h)
theorem Rps.anti (r : Rps K P O H vs ds) (h : ∀ a ∈ O', a ∈ O) : Rps K P O' H vs ds := r.kr (.anti h)
theorem Kp.refl : Kp O H H := ⟨fun _ _ _ e => .inl e, .refl⟩
theorem Kp.upd {o : HO} (h : H a = none) : Kp O H (upd H a o) := ⟨fun b _ u e => by rw [upd_ne (ne_of_none e h)]; exact .inl e, .new h⟩
theorem Kp.updO {o : HO} (h : a ∈ O) (hf : Loose (H a)) : Kp O H (L2.upd H a o) := ⟨fun b n u e => by
  rw [upd_ne (fun z => n (by rw [z]; exact h))]
  exact .inl e, .upd hf⟩
theorem Rps.length : ∀ {vs : List V} {ds : List Dat}, Rps K P O H vs ds → vs.length = ds.length
  | _, _, .nil => rfl
  | _, _, .cons _ t => by rw [List.length_cons, List.length_cons, t.length]
theorem Rps.append : ∀ {vs us : List V} {ds es : List Dat}, Rps K P O H vs ds → Rps K P O H us es → Rps K P O H (vs ++ us) (ds ++ es)
  | _, _, _, _, .nil, r => r
  | _, _, _, _, .cons h t, r => .cons h (t.append r)
theorem Rps.get : ∀ {vs : List V} {ds : List Dat} {i : Nat} {d : Dat}, Rps K P O H vs ds → ds[i]? = some d → ∃ v, vs[i]? = some v ∧ Rp K P O H v d
  | _, _, _, _, .nil, e => by simp at e
  | _, _, 0, _, .cons h t, e => by
    simp at e
    subst e
    exact ⟨_, rfl, h⟩
  | _, _, i + 1, _, .cons h t, e => by
    obtain ⟨v, e1, r⟩ := Rps.get (i := i) t (by simpa using e)
    exact ⟨v, by simpa using e1, r⟩
theorem Rps.getV : ∀ {vs : List V} {ds : List Dat} {i : Nat} {v : V}, Rps K P O H vs ds → vs[i]? = some v → ∃ d, ds[i]? = some d ∧ Rp K P O H v d
  | _, _, _, _, .nil, e => by simp at e
  | _, _, 0, _, .cons h t, e => by
    simp at e
    subst e
    exact ⟨_, rfl, h⟩
  | _, _, i + 1, _, .cons h t, e => by
    obtain ⟨v, e1, r⟩ := Rps.getV (i := i) t (by simpa using e)
    exact ⟨v, by simpa using e1, r⟩
theorem Rps.take : ∀ {vs : List V} {ds : List Dat} (n : Nat), Rps K P O H vs ds → Rps K P O H (vs.take n) (ds.take n)
  | _, _, 0, _ => .nil
  | _, _, _ + 1, .nil => .nil
  | _, _, n + 1, .cons h t => .cons h (t.take n)
theorem Rps.drop : ∀ {vs : List V} {ds : List Dat} (n : Nat), Rps K P O H vs ds → Rps K P O H (vs.drop n) (ds.drop n)
  | _, _, 0, r => r
  | _, _, _ + 1, .nil => .nil
  | _, _, n + 1, .cons _ t => t.drop n
theorem Rps.eraseIdx : ∀ {vs : List V} {ds : List Dat} (n : Nat), Rps K P O H vs ds → Rps K P O H (vs.eraseIdx n) (ds.eraseIdx n)
  | _, _, _, .nil => .nil
  | _, _, 0, .cons _ t => t
  | _, _, n + 1, .cons h t => .cons h (t.eraseIdx n)
theorem Rps.set {v : V} {d : Dat} (r : Rp K P O H v d) : ∀ {vs : List V} {ds : List Dat} (n : Nat), Rps K P O H vs ds → Rps K P O H (vs.set n v) (ds.set n d)
  | _, _, _, .nil => .nil
  | _, _, 0, .cons _ t => .cons r t
  | _, _, n + 1, .cons h t => .cons h (t.set r n)
end
def SlotOk (K : PySem.W.Frag) (P : Addr) (O : List Addr) (H : Hp) (e : DV) (r : Option V) : Prop := match e with
  | .no => True
  | .d x => ∃ v, r = some v ∧ Rp K P O H v x
  | .ol xs => ∃ a vs, r = some (.ref a) ∧ H a = some (.lst vs) ∧ Rps K P O H vs xs
  | .od ks => ∃ a kvs, r = some (.ref a) ∧ H a = some (.dK kvs) ∧ kvs.map (·.1) = ks.map (·.1) ∧ Rps K P O H (kvs.map (·.2)) (ks.map (·.2))
  | .oi x C fs => ∃ dx vfs, r = some (.ref x) ∧ H x = some (.ins C dx vfs) ∧ vfs.map (·.1) = fs.map (·.1) ∧ Rps K P O H (vfs.map (·.2)) (fs.map (·.2))
def DV.isO : DV → Bool
  | .no => false
  | .d _ => false
  | _ => true
def own1 (e : DV) (r : Option V) : List Addr := match e.isO, r with
  | true, some (.ref a) => [a]
  | _, _ => []
def owns : List DV → St → List Addr
  | e :: es, r :: σ => own1 e r ++ owns es σ
  | _, _ => []
def OO (P : Addr) (ex : List Addr) (s : DSt) (σ : St) : List Addr := P :: (ex ++ owns s.env σ)
structure PenOk (P : Addr) (O : List Addr) (H : Hp) (p : Pen) : Prop where
  at_ : ∃ c, H P = some (.lst [.ref c, .int p.i, .int p.g]) ∧ c ∉ O ∧ H c = some (.lst (p.ns.map V.int))
  lo : 0 ≤ p.i
  hi : p.i ≤ 100000
  gg : 0 ≤ p.g
  tab : LamX.Tabs p.T H
  n : p.ns.length ≤ 63
structure Rel (K : PySem.W.Frag) (P : Addr) (ex : List Addr) (s : DSt) (σ : St) (H : Hp) : Prop where
  nd : (OO P ex s σ).Nodup
  sl : Paired (SlotOk K P (OO P ex s σ) H) s.env σ
  pen : PenOk P (OO P ex s σ) H s.pen
  exs : ∀ a ∈ ex, ∃ o, H a = some o
structure Step (K : PySem.W.Frag) (P : Addr) (ex : List Addr) (σ : St) (s : DSt) (H : Hp) (σ' : St) (s' : DSt) (H' : Hp) : Prop where
  rel : Rel K P ex s' σ' H'
  keep : Kp (OO P ex s σ) H H'
  exk : ∀ a ∈ ex, H' a = H a
  own : ∀ a ∈ owns s'.env σ', a ∈ owns s.env σ ∨ H a = none
section
variable {K : PySem.W.Frag} {P : Addr} {ex O O' : List Addr} {s s1 s2 : DSt} {σ σ1 σ2 : St} {H H1 H2 : Hp} {a : Addr} {p : Pen}
theorem oo_mem : a ∈ OO P ex s σ ↔ a = P ∨ a ∈ ex ∨ a ∈ owns s.env σ := by
  unfold OO
  simp
theorem Step.refl (r : Rel K P ex s σ H) : Step K P ex σ s H σ s H := ⟨r, Kp.refl, fun _ _ => rfl, fun _ h => .inl h⟩
theorem Step.keep2 (x : Step K P ex σ s H σ1 s1 H1) (k : Kp (OO P ex s1 σ1) H1 H2) : Kp (OO P ex s σ) H H2 := by
  refine ⟨fun a n o e => ?_, x.keep.2.trans k.2⟩
  refine (x.keep.1 a n o e).trans fun u eu => k.1 a (fun z => ?_) u eu
  rcases oo_mem.mp z with z | z | z
  · exact n (oo_mem.mpr (.inl z))
  · exact n (oo_mem.mpr (.inr (.inl z)))
  · rcases x.own a z with q | q
    · exact n (oo_mem.mpr (.inr (.inr q)))
    · rw [q] at e
      cases e
theorem Rel.sep (r : Rel K P ex s σ H) : P ∉ ex ∧ P ∉ owns s.env σ ∧ (∀ a ∈ ex, a ∉ owns s.env σ) ∧ ex.Nodup ∧ (owns s.env σ).Nodup := by
  have h := r.nd
  unfold OO at h
  rw [List.nodup_cons, List.nodup_append] at h
  obtain ⟨h1, h2, h3, h4⟩ := h
  refine ⟨fun z => h1 (List.mem_append_left _ z), fun z => h1 (List.mem_append_right _ z), fun a ha hb => h4 a ha a hb rfl, h2, h3⟩
theorem Step.trans (x : Step K P ex σ s H σ1 s1 H1) (y : Step K P ex σ1 s1 H1 σ2 s2 H2) : Step K P ex σ s H σ2 s2 H2 := by
  refine ⟨y.rel, x.keep2 y.keep, fun a ha => (y.exk a ha).trans (x.exk a ha), fun a ha => ?_⟩
  rcases y.own a ha with q | q
  · exact x.own a q
  · by_cases hm : a ∈ owns s.env σ
    · exact .inl hm
    · refine .inr ?_
      cases e : H a with
      | none => rfl
      | some o =>
        have n : a ∉ OO P ex s σ := fun z => by
          obtain ⟨c1, c2, c3, _⟩ := y.rel.sep
          rcases oo_mem.mp z with z | z | z
          · exact c2 (z ▸ ha)
          · exact c3 a z ha
          · exact hm z
        exact ((x.keep.1 a n o e).ne q).elim
theorem PenOk.anti (x : PenOk P O H p) (h : ∀ a ∈ O', a ∈ O) : PenOk P O' H p :=
  ⟨let ⟨c, h1, h2, h3⟩ := x.at_; ⟨c, h1, fun z => h2 (h c z), h3⟩, x.lo, x.hi, x.gg, x.tab, x.n⟩
end
end BD
namespace BD
open PySem PySem.Spec PyProof.Rows L2
abbrev WX := L2.WX
theorem set_same {α : Type} : ∀ {l : List α} {i : Nat} {v : α}, l[i]? = some v → l.set i v = l
  | [], _, _, h => by simp at h
  | a :: l, 0, v, h => by
    simp at h
    simp [h]
  | a :: l, i + 1, v, h => by
    rw [List.set_cons_succ, set_same (by simpa using h)]
theorem Paired.getL {α β : Type} {F : α → β → Prop} : ∀ {l : List α} {m : List β} {i : Nat} {a : α}, Paired F l m → l[i]? = some a → ∃ b, m[i]? = some b ∧ F a b
  | _, _, _, _, .nil, e => by simp at e
  | _, _, 0, _, .cons h t, e => by
    simp at e
    subst e
    exact ⟨_, rfl, h⟩
  | _, _, i + 1, _, .cons h t, e => by
    obtain ⟨v, e1, r⟩ := Paired.getL (i := i) t (by simpa using e)
    exact ⟨v, by simpa using e1, r⟩
theorem Paired.setP {α β : Type} {F : α → β → Prop} {a : α} {b : β} (r : F a b) : ∀ {l : List α} {m : List β} (n : Nat), Paired F l m → Paired F (l.set n a) (m.set n b)
  | _, _, _, .nil => .nil
  | _, _, 0, .cons _ t => .cons r t
  | _, _, n + 1, .cons h t => .cons h (Paired.setP r n t)
/-- .. with the bond told of the members of owns -/
theorem Paired.own {F G : DV → Option V → Prop} : ∀ {es : List DV} {σ : St}, Paired F es σ → (∀ e r, (∀ b ∈ own1 e r, b ∈ owns es σ) → F e r → G e r) → Paired G es σ
  | _, _, .nil, _ => .nil
  | _, _, .cons h t, f => .cons (f _ _ (fun b hb => List.mem_append_left _ hb) h) (Paired.own t fun e r hb x => f e r (fun b z => List.mem_append_right _ (hb b z)) x)
theorem owns_set {e : DV} {r : Option V} : ∀ {es : List DV} {σ : St} (i : Nat), ∀ b ∈ owns (es.set i e) (σ.set i r), b ∈ own1 e r ∨ b ∈ owns es σ
  | [], _, _, b, h => by
    simp [owns] at h
  | _ :: _, [], _, b, h => by
    cases ‹Nat› <;> simp [owns] at h
  | e0 :: es, r0 :: σ, 0, b, h => by
    simp only [List.set_cons_zero, owns, List.mem_append] at h
    exact h.imp id fun z => List.mem_append_right _ z
  | e0 :: es, r0 :: σ, i + 1, b, h => by
    simp only [List.set_cons_succ, owns, List.mem_append] at h
    rcases h with h | h
    · exact .inr (List.mem_append_left _ h)
    · exact (owns_set i b h).imp id fun z => List.mem_append_right _ z
theorem owns_nodup {e : DV} {r : Option V} (h1 : (own1 e r).Nodup) : ∀ {es : List DV} {σ : St} (i : Nat), (owns es σ).Nodup → (∀ b ∈ own1 e r, b ∉ owns es σ) → (owns (es.set i e) (σ.set i r)).Nodup
  | [], _, _, _, _ => by simp [owns]
  | _ :: _, [], i, _, _ => by cases i <;> simp [owns]
  | e0 :: es, r0 :: σ, 0, n, f => by
    simp only [List.set_cons_zero, owns] at n f ⊢
    rw [List.nodup_append] at n ⊢
    exact ⟨h1, n.2.1, fun a ha b hb z => f a ha (by rw [z]; exact List.mem_append_right _ hb)⟩
  | e0 :: es, r0 :: σ, i + 1, n, f => by
    simp only [List.set_cons_succ, owns] at n f ⊢
    rw [List.nodup_append] at n ⊢
    refine ⟨n.1, owns_nodup h1 i n.2.1 fun b hb z => f b hb (List.mem_append_right _ z), fun a ha b hb z => ?_⟩
    rcases owns_set i b hb with q | q
    · exact f b q (by rw [← z]; exact List.mem_append_left _ ha)
    · exact n.2.2 a ha b q z
theorem own1_nodup (e : DV) (r : Option V) : (own1 e r).Nodup := by
  unfold own1
  split <;> simp
theorem own1_sub : ∀ {es : List DV} {σ : St} {i : Nat} {e : DV} {r : Option V}, es[i]? = some e → σ[i]? = some r → ∀ b ∈ own1 e r, b ∈ owns es σ
  | [], _, _, _, _, h, _, _, _ => by simp at h
  | _ :: _, [], _, _, _, _, h, _, _ => by simp at h
  | e0 :: es, r0 :: σ, 0, e, r, h, h', b, hb => by
    simp at h h'
    subst h h'
    exact List.mem_append_left _ hb
  | e0 :: es, r0 :: σ, i + 1, e, r, h, h', b, hb => List.mem_append_right _ (own1_sub (by simpa using h) (by simpa using h') b hb)
/-- the i-th put off: its own is no more there -/
theorem owns_off {e : DV} {r : Option V} : ∀ {es : List DV} {σ : St} {i : Nat} {e0 : DV} {r0 : Option V}, own1 e r = [] → es[i]? = some e0 → σ[i]? = some r0 → (owns es σ).Nodup → ∀ b ∈ own1 e0 r0, b ∉ owns (es.set i e) (σ.set i r)
  | [], _, _, _, _, _, h, _, _, _, _ => by simp at h
  | _ :: _, [], _, _, _, _, _, h, _, _, _ => by simp at h
  | e1 :: es, r1 :: σ, 0, e0, r0, z, h, h', n, b, hb => by
    simp at h h'
    subst h h'
    simp only [List.set_cons_zero, owns, z, List.nil_append]
    rw [owns, List.nodup_append] at n
    exact fun q => n.2.2 b hb b q rfl
  | e1 :: es, r1 :: σ, i + 1, e0, r0, z, h, h', n, b, hb => by
    simp only [List.set_cons_succ, owns, List.mem_append]
    rw [owns, List.nodup_append] at n
    have m := own1_sub (by simpa using h) (by simpa using h') b hb
    rintro (q | q)
    · exact n.2.2 b q b m rfl
    · exact owns_off z (by simpa using h) (by simpa using h') n.2.1 b hb q
section
variable {K : PySem.W.Frag} {P : Addr} {ex O O' : List Addr} {s s1 s2 : DSt} {σ σ1 σ2 : St} {H H' H1 H2 : Hp} {a : Addr} {p : Pen} {e : DV} {r : Option V} {v : V} {x : Dat} {i : Nat}
theorem SlotOk.mono (h : SlotOk K P O H e r) (k : Kp O H H') (q : ∀ b ∈ own1 e r, H' b = H b) : SlotOk K P O H' e r := by
  cases e with
  | no => trivial
  | d x =>
    obtain ⟨v, e1, z⟩ := h
    exact ⟨v, e1, z.kp k⟩
  | ol xs =>
    obtain ⟨a, vs, rfl, e1, z⟩ := h
    exact ⟨a, vs, rfl, (q a (by simp [own1, DV.isO])).trans e1, z.kp k⟩
  | od ks =>
    obtain ⟨a, vs, rfl, e1, e2, z⟩ := h
    exact ⟨a, vs, rfl, (q a (by simp [own1, DV.isO])).trans e1, e2, z.kp k⟩
  | oi a C fs =>
    obtain ⟨dx, vs, rfl, e1, e2, z⟩ := h
    exact ⟨dx, vs, rfl, (q a (by simp [own1, DV.isO])).trans e1, e2, z.kp k⟩
theorem SlotOk.kr (h : SlotOk K P O H e r) (k : Kr O O' H H') (q : ∀ b ∈ own1 e r, H' b = H b) : SlotOk K P O' H' e r := by
  cases e with
  | no => trivial
  | d x =>
    obtain ⟨v, e1, z⟩ := h
    exact ⟨v, e1, z.kr k⟩
  | ol xs =>
    obtain ⟨a, vs, rfl, e1, z⟩ := h
    exact ⟨a, vs, rfl, (q a (by simp [own1, DV.isO])).trans e1, z.kr k⟩
  | od ks =>
    obtain ⟨a, vs, rfl, e1, e2, z⟩ := h
    exact ⟨a, vs, rfl, (q a (by simp [own1, DV.isO])).trans e1, e2, z.kr k⟩
  | oi a C fs =>
    obtain ⟨dx, vs, rfl, e1, e2, z⟩ := h
    exact ⟨dx, vs, rfl, (q a (by simp [own1, DV.isO])).trans e1, e2, z.kr k⟩
theorem SlotOk.nofz (h : SlotOk K P O H e r) : ∀ b ∈ own1 e r, Loose (H b) := by
  intro b hb
  cases e with
  | no => simp [own1, DV.isO] at hb
  | d x => simp [own1, DV.isO] at hb
  | ol xs =>
    obtain ⟨a, vs, rfl, e1, _⟩ := h
    simp [own1, DV.isO] at hb
    subst hb
    exact .lst e1
  | od xs =>
    obtain ⟨a, vs, rfl, e1, _⟩ := h
    simp [own1, DV.isO] at hb
    subst hb
    exact .dK e1
  | oi a C xs =>
    obtain ⟨dx, vs, rfl, e1, _⟩ := h
    simp [own1, DV.isO] at hb
    subst hb
    exact .ins e1
theorem PenOk.mono (h : PenOk P O H p) (k : Kp O H H') (q : H' P = H P) (b : Tb H H') : PenOk P O H' p :=
  ⟨let ⟨c, h1, h2, h3⟩ := h.at_; ⟨c, q.trans h1, h2, (k.1 c h2 _ h3).nt⟩, h.lo, h.hi, h.gg, h.tab.still k.2 b, h.n⟩
/-- the heap goes on, the pen too; what is owned stands -/
theorem Rel.move (r : Rel K P ex s σ H) (k : Kp (OO P ex s σ) H H') (q : ∀ b ∈ ex ++ owns s.env σ, H' b = H b) (hp : PenOk P (OO P ex s σ) H' p) : Rel K P ex { s with pen := p } σ H' :=
  ⟨r.nd, Paired.own r.sl fun e r' hb h => h.mono k fun b z => q b (List.mem_append_right _ (hb b z)), hp, fun a ha => let ⟨o, e⟩ := r.exs a ha; ⟨o, (q a (List.mem_append_left _ ha)).trans e⟩⟩
theorem Rel.there (r : Rel K P ex s σ H) : ∀ a ∈ OO P ex s σ, ∃ o, H a = some o := fun a ha => by
  rcases oo_mem.mp ha with rfl | h | h
  · obtain ⟨c, h1, _⟩ := r.pen.at_
    exact ⟨_, h1⟩
  · exact r.exs a h
  · have : ∀ {es : List DV} {τ : St}, Paired (SlotOk K P (OO P ex s σ) H) es τ → a ∈ owns es τ → ∃ o, H a = some o := by
      intro es τ p
      induction p with
      | nil => intro h; simp [owns] at h
      | @cons e r l m h1 t ih =>
        intro h
        simp only [owns, List.mem_append] at h
        rcases h with h | h
        · cases e with
          | no => simp [own1, DV.isO] at h
          | d x => simp [own1, DV.isO] at h
          | ol xs =>
            obtain ⟨b, vs, rfl, e1, _⟩ := h1
            simp [own1, DV.isO] at h
            subst h
            exact ⟨_, e1⟩
          | od xs =>
            obtain ⟨b, vs, rfl, e1, _⟩ := h1
            simp [own1, DV.isO] at h
            subst h
            exact ⟨_, e1⟩
          | oi b C xs =>
            obtain ⟨dx, vs, rfl, e1, _⟩ := h1
            simp [own1, DV.isO] at h
            subst h
            exact ⟨_, e1⟩
        · exact ih h
    exact this r.sl h
theorem Rel.fresh (r : Rel K P ex s σ H) (h : H a = none) : a ∉ OO P ex s σ := fun z => by
  obtain ⟨o, e⟩ := r.there a z
  rw [h] at e
  cases e
theorem Step.new {o : HO} (r : Rel K P ex s σ H) (h : H a = none) : Step K P ex σ s H σ s (upd H a o) := by
  have k : Kp (OO P ex s σ) H (upd H a o) := .upd h
  have f := r.fresh h
  have q : ∀ b ∈ OO P ex s σ, upd H a o b = H b := fun b hb => upd_ne fun z => f (z ▸ hb)
  exact ⟨r.move k (fun b hb => q b (List.mem_cons_of_mem _ hb)) (r.pen.mono k (q P (List.mem_cons_self ..)) (.upd (.none h))), k, fun b hb => q b (oo_mem.mpr (.inr (.inl hb))), fun _ h => .inl h⟩
theorem Rel.slot (r : Rel K P ex s σ H) (h : s.env[i]? = some e) : ∃ u, σ[i]? = some u ∧ SlotOk K P (OO P ex s σ) H e u := Paired.getL r.sl h
/-- plain data into a slot -/
theorem Rel.set (r : Rel K P ex s σ H) (h : Rp K P (OO P ex s σ) H v x) : Rel K P ex { s with env := s.env.set i (.d x) } (σ.set i (some v)) H := by
  have z : own1 (.d x) (some v) = [] := by simp [own1, DV.isO]
  have sub : ∀ b ∈ owns (s.env.set i (.d x)) (σ.set i (some v)), b ∈ owns s.env σ := fun b hb => (owns_set i b hb).elim (fun q => by rw [z] at q; cases q) id
  have sub' : ∀ b ∈ OO P ex { s with env := s.env.set i (.d x) } (σ.set i (some v)), b ∈ OO P ex s σ := fun b hb => oo_mem.mpr ((oo_mem.mp hb).imp id fun q => q.imp id (sub b))
  obtain ⟨c1, c2, c3, c4, c5⟩ := r.sep
  refine ⟨?_, Paired.setP ⟨v, rfl, h.anti sub'⟩ i (Paired.own r.sl fun e u _ q => q.kr (.anti sub') fun _ _ => rfl), r.pen.anti sub', r.exs⟩
  unfold OO
  rw [List.nodup_cons, List.nodup_append]
  refine ⟨fun m => ?_, c4, owns_nodup (own1_nodup _ _) i c5 (fun b hb => by rw [z] at hb; cases hb), fun a ha b hb e => c3 a ha (e ▸ sub b hb)⟩
  rcases List.mem_append.mp m with m | m
  · exact c1 m
  · exact c2 (sub _ m)
theorem Step.set (r : Rel K P ex s σ H) (h : Rp K P (OO P ex s σ) H v x) : Step K P ex σ s H (σ.set i (some v)) { s with env := s.env.set i (.d x) } H :=
  ⟨r.set h, Kp.refl, fun _ _ => rfl, fun b hb => (owns_set i b hb).elim (fun q => by simp [own1, DV.isO] at q) .inl⟩
/-- an owned slot put off, its own object made still -/
theorem Step.off (r : Rel K P ex s σ H) (h : s.env[i]? = some e) (hs : σ[i]? = some (some v)) (hH : ∀ b, b ∉ own1 e (some v) → H' b = H b) (hx : ∀ O', (∀ b ∈ O', b ∈ OO P ex s σ) → (∀ b ∈ own1 e (some v), b ∉ O') → Kr (OO P ex s σ) O' H H' → Rp K P O' H' v x) :
    Step K P ex σ s H σ { s with env := s.env.set i (.d x) } H' := by
  obtain ⟨c1, c2, c3, c4, c5⟩ := r.sep
  have e1 : σ.set i (some v) = σ := set_same hs
  have z : own1 (.d x) (some v) = [] := by simp [own1, DV.isO]
  have sub : ∀ b ∈ owns (s.env.set i (.d x)) σ, b ∈ owns s.env σ := fun b hb => by
    rw [← e1] at hb
    exact (owns_set i b hb).elim (fun q => by rw [z] at q; cases q) id
  have sub' : ∀ b ∈ OO P ex { s with env := s.env.set i (.d x) } σ, b ∈ OO P ex s σ := fun b hb => oo_mem.mpr ((oo_mem.mp hb).imp id fun q => q.imp id (sub b))
  have off : ∀ b ∈ own1 e (some v), b ∉ OO P ex { s with env := s.env.set i (.d x) } σ := fun b hb m => by
    have hb' := own1_sub h hs b hb
    rcases oo_mem.mp m with m | m | m
    · exact c2 (m ▸ hb')
    · exact c3 b m hb'
    · have := owns_off (e := .d x) (r := some v) z h hs c5 b hb
      rw [e1] at this
      exact this m
  have inO : ∀ b ∈ own1 e (some v), b ∈ OO P ex s σ := fun b hb => oo_mem.mpr (.inr (.inr (own1_sub h hs b hb)))
  obtain ⟨u0, eu0, ok0⟩ := r.slot h
  rw [hs] at eu0
  cases eu0
  have kp : Kp (OO P ex s σ) H H' := ⟨fun b n o e0 => by rw [hH b fun m => n (inO b m)]; exact .inl e0, fun b q u eb => by
    rw [hH b fun m => (ok0.nofz b m).stl eb u]
    exact eb⟩
  have tb : Tb H H' := fun b ps eb => by
    rw [hH b fun m => (ok0.nofz b m).tbl eb]
    exact eb
  have kr : Kr (OO P ex s σ) (OO P ex { s with env := s.env.set i (.d x) } σ) H H' := ⟨fun b n o e0 => ⟨fun m => n (sub' b m), kp.1 b n o e0⟩, kp.2⟩
  have hP : H' P = H P := hH P fun m => c2 (own1_sub h hs P m)
  have hE : ∀ a ∈ ex, H' a = H a := fun a ha => hH a fun m => c3 a ha (own1_sub h hs a m)
  have p0 : Paired (fun e' r' => SlotOk K P (OO P ex s σ) H e' r' ∨ (e' = .d x ∧ r' = some v)) (s.env.set i (.d x)) (σ.set i (some v)) := Paired.setP (.inr ⟨rfl, rfl⟩) i (Paired.own r.sl fun _ _ _ q => .inl q)
  rw [e1] at p0
  refine ⟨⟨?_, Paired.own p0 fun e' r' hb q => ?_, ?_, fun a ha => let ⟨o, e0⟩ := r.exs a ha; ⟨o, (hE a ha).trans e0⟩⟩, kp, hE, fun b hb => .inl (sub b hb)⟩
  · unfold OO
    rw [List.nodup_cons, List.nodup_append]
    have nd := owns_nodup (e := .d x) (r := some v) (own1_nodup _ _) i c5 (fun b hb => by rw [z] at hb; cases hb)
    rw [e1] at nd
    refine ⟨fun m => ?_, c4, nd, fun a ha b hb e => c3 a ha (e ▸ sub b hb)⟩
    rcases List.mem_append.mp m with m | m
    · exact c1 m
    · exact c2 (sub _ m)
  · rcases q with q | ⟨rfl, rfl⟩
    · exact q.kr kr fun b hb' => hH b fun m => off b m (oo_mem.mpr (.inr (.inr (hb b hb'))))
    · exact ⟨v, rfl, hx _ sub' off kr⟩
  · exact (r.pen.mono kp hP tb).anti sub'
end
/-- an error: its own dict, the fields -/
def ErrAt (K : PySem.W.Frag) (P : Addr) (O : List Addr) (H : Hp) (od : Option Addr) (fs : List (Str × Dat)) : Prop :=
  (od = none ∧ fs = []) ∨ ∃ d vfs, od = some d ∧ H d = some (.xd vfs) ∧ vfs.map (·.1) = fs.map (·.1) ∧ Rps K P O H (vfs.map (·.2)) (fs.map (·.2))
structure XStep (K : PySem.W.Frag) (P : Addr) (ex : List Addr) (σ : St) (s : DSt) (H H' : Hp) (fs : List (Str × Dat)) (p : Pen) (od : Option Addr) : Prop where
  keep : Kp (OO P ex s σ) H H'
  exk : ∀ a ∈ ex, H' a = H a
  pen : PenOk P (P :: ex) H' p
  err : ErrAt K P (P :: ex) H' od fs
structure RStep (K : PySem.W.Frag) (P : Addr) (ex : List Addr) (σ : St) (s : DSt) (H H' : Hp) (d : Dat) (p : Pen) (v : V) : Prop where
  keep : Kp (OO P ex s σ) H H'
  exk : ∀ a ∈ ex, H' a = H a
  pen : PenOk P (P :: ex) H' p
  val : Rp K P (P :: ex) H' v d
abbrev RR (α β : Type) := Addr → List Addr → St → Hp → β → α → Prop
def Fin {α β : Type} (K : PySem.W.Frag) (P : Addr) (ex : List Addr) (R : RR α β) (W : WX) (σ : St) (s : DSt) (H : Hp) (Q : β → Hp → Prop) (o : Out α) : Prop := match o with
  | .ok a s' => ∀ H' b, Step K P ex σ s H σ s' H' → R P (OO P ex s' σ) σ H' b a → Q b H'
  | .ex C fs p => ∀ H' od, XStep K P ex σ s H H' fs p od → W (.ref C) od σ H'
  | .no => False
def FinS (K : PySem.W.Frag) (P : Addr) (ex : List Addr) (W : WX) (σ : St) (s : DSt) (H : Hp) (D : Ends) (o : OutS) : Prop := match o with
  | .nx s' => ∀ σ' H', Step K P ex σ s H σ' s' H' → D.nx σ' H'
  | .bk s' => ∀ σ' H', Step K P ex σ s H σ' s' H' → D.bk σ' H'
  | .ct s' => ∀ σ' H', Step K P ex σ s H σ' s' H' → D.ct σ' H'
  | .rt d p => ∀ v H', RStep K P ex σ s H H' d p v → D.rt v H'
  | .ex C fs p => ∀ σ' H' od, XStep K P ex σ s H H' fs p od → W (.ref C) od σ' H'
  | .no => False
def tG {α β : Type} (K : PySem.W.Frag) (R : RR α β) (W : WX) (g : DSt → Out α) : St → Hp → (β → Hp → Prop) → Prop := fun σ H Q => ∃ P ex s, Rel K P ex s σ H ∧ Fin K P ex R W σ s H Q (g s)
def tS (K : PySem.W.Frag) (W : WX) (g : DSt → OutS) : TS := fun D σ H => ∃ P ex s, Rel K P ex s σ H ∧ FinS K P ex W σ s H D (g s)
def RP (K : PySem.W.Frag) : RR Dat V := fun P O _ H v d => Rp K P O H v d
def RA (K : PySem.W.Frag) : RR (List Dat) (List V) := fun P O _ H v d => Rps K P O H v d
/-- a handle: the slot whose thing it is, or plain data -/
def RH (K : PySem.W.Frag) : RR (Nat ⊕ Dat) V := fun P O σ H v h => match h with
  | .inl i => σ[i]? = some (some v)
  | .inr d => Rp K P O H v d
def RB : RR Bool Bool := fun _ _ _ _ b a => b = a
abbrev DE (X : Cx) (W : WX) (e : Expr) (g : DSt → Out Dat) : Prop := PE X e (tG X.K (RP X.K) W g)
abbrev DH (X : Cx) (W : WX) (e : Expr) (g : DSt → Out (Nat ⊕ Dat)) : Prop := PE X e (tG X.K (RH X.K) W g)
abbrev DA (X : Cx) (W : WX) (es : List Expr) (g : DSt → Out (List Dat)) : Prop := PA X es (tG X.K (RA X.K) W g)
abbrev DT (X : Cx) (W : WX) (e : Expr) (g : DSt → Out Bool) : Prop := PT X e (tG X.K RB W g)
abbrev DS (X : Cx) (W : WX) (st : Stmt) (g : DSt → OutS) : Prop := PS X st (tS X.K W g)
abbrev DSs (X : Cx) (W : WX) (st : List Stmt) (g : DSt → OutS) : Prop := PSs X st (tS X.K W g)
section
variable {K : PySem.W.Frag} {P : Addr} {ex : List Addr} {s s1 : DSt} {σ σ1 : St} {H H1 : Hp} {W : WX}
theorem XStep.back {H2 : Hp} {fs : List (Str × Dat)} {p : Pen} {od : Option Addr} (x : Step K P ex σ s H σ1 s1 H1) (y : XStep K P ex σ1 s1 H1 H2 fs p od) : XStep K P ex σ s H H2 fs p od :=
  ⟨x.keep2 y.keep, fun a ha => (y.exk a ha).trans (x.exk a ha), y.pen, y.err⟩
theorem RStep.back {H2 : Hp} {d : Dat} {p : Pen} {v : V} (x : Step K P ex σ s H σ1 s1 H1) (y : RStep K P ex σ1 s1 H1 H2 d p v) : RStep K P ex σ s H H2 d p v :=
  ⟨x.keep2 y.keep, fun a ha => (y.exk a ha).trans (x.exk a ha), y.pen, y.val⟩
theorem Fin.go {α β : Type} {R : RR α β} {Q : β → Hp → Prop} {o : Out α} (f : Fin K P ex R W σ s H Q o) (x : Step K P ex σ s H σ s1 H1) : Fin K P ex R W σ s1 H1 Q o := by
  cases o with
  | ok a s' => exact fun H' b st r => f H' b (x.trans st) r
  | ex C fs p => exact fun H' od st => f H' od (st.back x)
  | no => exact f
theorem FinS.go {D : Ends} {o : OutS} (f : FinS K P ex W σ s H D o) (x : Step K P ex σ s H σ1 s1 H1) : FinS K P ex W σ1 s1 H1 D o := by
  cases o with
  | nx s' => exact fun σ' H' st => f σ' H' (x.trans st)
  | bk s' => exact fun σ' H' st => f σ' H' (x.trans st)
  | ct s' => exact fun σ' H' st => f σ' H' (x.trans st)
  | rt d p => exact fun v H' st => f v H' (st.back x)
  | ex C fs p => exact fun σ' H' od st => f σ' H' od (st.back x)
  | no => exact f
/-- one part after another -/
theorem tG_seq {α β γ δ : Type} {R : RR α β} {R2 : RR γ δ} {g : DSt → Out α} {k : α → DSt → Out γ} {Q1 : β → Hp → Prop} {Q : δ → Hp → Prop} (rel : Rel K P ex s σ H) (f : Fin K P ex R2 W σ s H Q ((g s).bind k))
    (h : ∀ a s1 H1 b, Step K P ex σ s H σ s1 H1 → R P (OO P ex s1 σ) σ H1 b a → Fin K P ex R2 W σ s1 H1 Q (k a s1) → Q1 b H1) : tG K R W g σ H Q1 := by
  refine ⟨P, ex, s, rel, ?_⟩
  cases e : g s with
  | ok a s1 =>
    rw [e] at f
    exact fun H1 b st r => h a s1 H1 b st r (Fin.go f st)
  | ex C fs p =>
    rw [e] at f
    exact f
  | no =>
    rw [e] at f
    exact f
end
theorem PE.imp {X : Cx} {e : Expr} {t u : TE} (h : PE X e t) (i : ∀ σ H Q, u σ H Q → t σ H Q) : PE X e u := ⟨fun pins s σ H Q I q => h.run pins s σ H Q I (i σ H Q q)⟩
theorem PT.imp {X : Cx} {e : Expr} {t u : TT} (h : PT X e t) (i : ∀ σ H Q, u σ H Q → t σ H Q) : PT X e u := ⟨fun pins s σ H Q I q => h.run pins s σ H Q I (i σ H Q q)⟩
theorem PA.imp {X : Cx} {e : List Expr} {t u : TA} (h : PA X e t) (i : ∀ σ H Q, u σ H Q → t σ H Q) : PA X e u := ⟨fun pos pins s σ H Q I q => h.run pos pins s σ H Q I (i σ H Q q)⟩
theorem PS.imp {X : Cx} {e : Stmt} {t u : TS} (h : PS X e t) (i : ∀ D σ H, u D σ H → t D σ H) : PS X e u := ⟨fun pins s σ H D I q => h.run pins s σ H D I (i D σ H q)⟩
theorem PSs.imp {X : Cx} {e : List Stmt} {t u : TS} (h : PSs X e t) (i : ∀ D σ H, u D σ H → t D σ H) : PSs X e u := ⟨fun pins s σ H D I q => h.run pins s σ H D I (i D σ H q)⟩
end BD
namespace BD
open PySem PySem.Spec PyProof.Rows L2
def Vw (K : PySem.W.Frag) (P : Addr) (O : List Addr) (H : Hp) (v : V) (d : Dat) : Prop := match d with
  | .lst xs => ∃ a vs, v = .ref a ∧ H a = some (.lst vs) ∧ Rps K P O H vs xs
  | .dic ks => ∃ a kvs, v = .ref a ∧ Rd H a (.dK kvs) ∧ kvs.map (·.1) = ks.map (·.1) ∧ Rps K P O H (kvs.map (·.2)) (ks.map (·.2))
  | .ins C fs => ∃ a dx vfs, v = .ref a ∧ H a = some (.ins C dx vfs) ∧ vfs.map (·.1) = fs.map (·.1) ∧ Rps K P O H (vfs.map (·.2)) (fs.map (·.2))
  | .bor ks => ∃ a kvs, v = .ref a ∧ (∃ o, H a = some (.frz o (.dK kvs))) ∧ kvs.map (·.1) = ks.map (·.1) ∧ Rps K P O H (kvs.map (·.2)) (ks.map (·.2))
  | d => Rp K P O H v d
def look (s : DSt) : Nat ⊕ Dat → Option Dat
  | .inr d => some d
  | .inl i => match s.env[i]? with
    | some (.d x) => some x
    | some (.ol xs) => some (.lst xs)
    | some (.od ks) => some (.dic ks)
    | some (.oi _ C fs) => some (.ins C fs)
    | _ => none
section
variable {K : PySem.W.Frag} {P : Addr} {ex O O' : List Addr} {s s1 s2 : DSt} {σ σ1 σ2 : St} {H H' H1 H2 : Hp} {a : Addr} {p : Pen} {v : V} {d x : Dat} {i : Nat} {h : Nat ⊕ Dat}
theorem Rp.vw (r : Rp K P O H v d) : Vw K P O H v d := by
  cases r with
  | lst s r => exact ⟨_, _, rfl, s.2, r⟩
  | dic n s e r => exact ⟨_, _, rfl, .inr s, e, r⟩
  | ins n s e r => exact ⟨_, _, _, rfl, s, e, r⟩
  | non => exact .non
  | bl b => exact .bl b
  | int b => exact .int b
  | str b => exact .str b
  | tup s r => exact .tup s r
  | pen => exact .pen
  | bor s e r => exact ⟨_, _, rfl, s, e, r⟩
theorem Step.kr (x : Step K P ex σ s H σ1 s1 H1) : Kr (OO P ex s σ) (OO P ex s1 σ1) H H1 := by
  refine ⟨fun a n o e => ?_, x.keep.2⟩
  refine ⟨fun z => ?_, x.keep.1 a n o e⟩
  rcases oo_mem.mp z with z | z | z
  · exact n (oo_mem.mpr (.inl z))
  · exact n (oo_mem.mpr (.inr (.inl z)))
  · rcases x.own a z with q | q
    · exact n (oo_mem.mpr (.inr (.inr q)))
    · rw [q] at e
      cases e
theorem Rp.step (r : Rp K P (OO P ex s σ) H v d) (x : Step K P ex σ s H σ1 s1 H1) : Rp K P (OO P ex s1 σ1) H1 v d := r.kr x.kr
theorem Rps.step {vs : List V} {ds : List Dat} (r : Rps K P (OO P ex s σ) H vs ds) (x : Step K P ex σ s H σ1 s1 H1) : Rps K P (OO P ex s1 σ1) H1 vs ds := r.kr x.kr
theorem RH.step (r : RH K P (OO P ex s σ) σ H v h) (x : Step K P ex σ s H σ s1 H1) : RH K P (OO P ex s1 σ) σ H1 v h := by
  cases h with
  | inl i => exact r
  | inr d => exact Rp.step (show Rp K P (OO P ex s σ) H v d from r) x
def dicOf : Dat → Option (List (Key × Dat))
  | .dic ks => some ks
  | .bor ks => some ks
  | _ => none
theorem rp_dic {ks : List (Key × Dat)} (r : Rp K P O H v d) (e : dicOf d = some ks) : ∃ a kvs o, v = .ref a ∧ H a = some (.frz o (.dK kvs)) ∧ kvs.map (·.1) = ks.map (·.1) ∧ Rps K P O H (kvs.map (·.2)) (ks.map (·.2)) ∧ ∀ O' H', Kr O O' H H' → H' a = some (.frz o (.dK kvs)) := by
  cases r with
  | dic n s e' r =>
    obtain rfl := Option.some.inj e
    obtain ⟨o, s⟩ := s
    exact ⟨_, _, o, rfl, s, e', r, fun _ _ k => k.2 _ _ True.intro s⟩
  | bor s e' r =>
    obtain rfl := Option.some.inj e
    obtain ⟨o, s⟩ := s
    exact ⟨_, _, o, rfl, s, e', r, fun _ _ k => k.2 _ _ True.intro s⟩
  | _ => cases e
theorem vw_dic {ks : List (Key × Dat)} (r : Vw K P O H v d) (e : dicOf d = some ks) : ∃ a kvs, v = .ref a ∧ Rd H a (.dK kvs) ∧ kvs.map (·.1) = ks.map (·.1) ∧ Rps K P O H (kvs.map (·.2)) (ks.map (·.2)) := by
  cases d with
  | dic l =>
    obtain rfl := Option.some.inj e
    exact r
  | bor l =>
    obtain rfl := Option.some.inj e
    obtain ⟨a, kvs, e1, s, r⟩ := r
    exact ⟨a, kvs, e1, .inr s, r⟩
  | _ => cases e
theorem look_vw (rel : Rel K P ex s σ H) (r : RH K P (OO P ex s σ) σ H v h) (e : look s h = some d) : Vw K P (OO P ex s σ) H v d := by
  cases h with
  | inr y =>
    obtain rfl : y = d := Option.some.inj e
    exact Rp.vw r
  | inl i =>
    have r : σ[i]? = some (some v) := r
    have e : (match s.env[i]? with | some (.d x) => some x | some (.ol xs) => some (.lst xs) | some (.od ks) => some (.dic ks) | some (.oi _ C fs) => some (.ins C fs) | _ => none) = some d := e
    cases q : s.env[i]? with
    | none => rw [q] at e; cases e
    | some w =>
      rw [q] at e
      obtain ⟨u, e1, ok⟩ := rel.slot q
      rw [r] at e1
      obtain rfl := Option.some.inj e1
      cases w with
      | no => cases e
      | d x =>
        obtain rfl := Option.some.inj e
        obtain ⟨v', e2, z⟩ := ok
        cases e2
        exact z.vw
      | ol xs =>
        obtain rfl := Option.some.inj e
        obtain ⟨a, vs, e2, e3, z⟩ := ok
        cases e2
        exact ⟨a, vs, rfl, e3, z⟩
      | od xs =>
        obtain rfl := Option.some.inj e
        obtain ⟨a, vs, e2, e3, e4, z⟩ := ok
        cases e2
        exact ⟨a, vs, rfl, .inl e3, e4, z⟩
      | oi a C xs =>
        obtain rfl := Option.some.inj e
        obtain ⟨dx, vs, e2, e3, e4, z⟩ := ok
        cases e2
        exact ⟨a, dx, vs, rfl, e3, e4, z⟩
end
def gC (d : Dat) : DSt → Out Dat := fun s => .ok d s
/-- a slot's data for good: what was owned is from now on plain -/
def gVar (i : Nat) : DSt → Out Dat := fun s => match s.env[i]? with
  | some (.d x) => .ok x s
  | some (.ol xs) => .ok (.lst xs) { s with env := s.env.set i (.d (.lst xs)) }
  | some (.od ks) => .ok (.dic ks) { s with env := s.env.set i (.d (.dic ks)) }
  | some (.oi _ C fs) => .ok (.ins C fs) { s with env := s.env.set i (.d (.ins C fs)) }
  | _ => .no
def gH (i : Nat) : DSt → Out (Nat ⊕ Dat) := fun s => match s.env[i]? with
  | some (.d x) => .ok (.inr x) s
  | some .no => .no
  | some _ => .ok (.inl i) s
  | none => .no
def gI (g : DSt → Out Dat) : DSt → Out (Nat ⊕ Dat) := fun s => (g s).bind fun d s1 => .ok (.inr d) s1
section
variable {X : Cx} {W : WX}
theorem fin_ok {K : PySem.W.Frag} {P : Addr} {ex : List Addr} {s : DSt} {σ : St} {H : Hp} {α β : Type} {R : RR α β} {Q : β → Hp → Prop} {a : α} {b : β} (f : Fin K P ex R W σ s H Q (.ok a s)) (rel : Rel K P ex s σ H) (r : R P (OO P ex s σ) σ H b a) : Q b H := f H b (.refl rel) r
theorem de_c {e : Expr} {v : V} {d : Dat} (h : PE X e (tC v)) (hr : ∀ P O H, Rp X.K P O H v d) : DE X W e (gC d) := PE.imp h fun σ H Q ⟨P, ex, s, rel, f⟩ => fin_ok f rel (hr ..)
theorem de_int {i j pos} : DE X W (.Constant (.int i) j pos) (gC (.int i)) := de_c pe_int fun _ _ _ => .int i
theorem de_bl {b j pos} : DE X W (.Constant (.bool b) j pos) (gC (.bl b)) := de_c pe_bl fun _ _ _ => .bl b
theorem de_non {j pos} : DE X W (.Constant .none j pos) (gC .non) := de_c pe_non fun _ _ _ => .non
theorem de_str {x j pos} : DE X W (.Constant (.str x) j pos) (gC (.str x)) := de_c pe_str fun _ _ _ => .str x
theorem de_gint {x : Str} {i : Int} {t : Tok} {pos : Pos} (hg : Gl X x) (hm : X.mg x = some (.int i t)) (hd : (x == ("__debug__" : Str)) = false := by decide) : DE X W (.Name x pos) (gC (.int i)) := de_c (pe_glob (v := .int i) hg hm ⟨t, rfl⟩ hd) fun _ _ _ => .int i
theorem de_gstr {x y : Str} {t : Tok} {pos : Pos} (hg : Gl X x) (hm : X.mg x = some (.str y t)) (hd : (x == ("__debug__" : Str)) = false := by decide) : DE X W (.Name x pos) (gC (.str y)) := de_c (pe_glob (v := .str y) hg hm ⟨t, rfl⟩ hd) fun _ _ _ => .str y
theorem dh_v {e : Expr} {i : Nat} (h : PE X e (tVar i)) : DH X W e (gH i) := PE.imp h fun σ H Q ⟨P, ex, s, rel, f⟩ => by
  unfold gH at f
  cases q : s.env[i]? with
  | none => rw [q] at f; exact f.elim
  | some w =>
    rw [q] at f
    obtain ⟨u, e1, ok⟩ := rel.slot q
    cases w with
    | no => exact f.elim
    | d x =>
      obtain ⟨v, rfl, r⟩ := ok
      exact ⟨v, e1, fin_ok f rel r⟩
    | ol xs =>
      obtain ⟨a, vs, rfl, r⟩ := ok
      exact ⟨_, e1, fin_ok f rel e1⟩
    | od xs =>
      obtain ⟨a, vs, rfl, r⟩ := ok
      exact ⟨_, e1, fin_ok f rel e1⟩
    | oi a C xs =>
      obtain ⟨dx, vs, rfl, r⟩ := ok
      exact ⟨_, e1, fin_ok f rel e1⟩
theorem de_v {e : Expr} {i : Nat} (h : PE X e (tVar i)) : DE X W e (gVar i) := ⟨fun pins s0 σ H Q I ⟨P, ex, s, rel, f⟩ => by
  unfold gVar at f
  cases q : s.env[i]? with
  | none => rw [q] at f; exact f.elim
  | some w =>
    rw [q] at f
    obtain ⟨u, e1, ok⟩ := rel.slot q
    have fin : ∀ {v : V} {x : Dat} {w : DV} {H' : Hp}, s.env[i]? = some w → σ[i]? = some (some v) → (∀ b, b ∉ own1 w (some v) → H' b = H b) → (∀ O', (∀ b ∈ O', b ∈ OO P ex s σ) → (∀ b ∈ own1 w (some v), b ∉ O') → Kr (OO P ex s σ) O' H H' → Rp X.K P O' H' v x) →
        Fin X.K P ex (RP X.K) W σ s H Q (.ok x { s with env := s.env.set i (.d x) }) → Q v H' := by
      intro v x w H' hq hs hH hx hf
      have st := Step.off rel hq hs hH hx
      refine hf H' v st ?_
      obtain ⟨u', e1', v', e2', r'⟩ := st.rel.slot (i := i) (e := .d x) (by simp [(List.getElem?_eq_some_iff.mp hq).1])
      rw [hs] at e1'
      cases e1'
      cases e2'
      exact r'
    cases w with
    | no => exact f.elim
    | d x =>
      obtain ⟨v, rfl, r⟩ := ok
      exact h.run pins s0 σ H Q I ⟨v, e1, fin_ok f rel r⟩
    | ol xs =>
      obtain ⟨a, vs, rfl, e2, r⟩ := ok
      exact h.run pins s0 σ H Q I ⟨_, e1, fin q e1 (fun _ _ => rfl) (fun O' h1 h2 k => .lst ⟨h2 a (by simp [own1, DV.isO]), e2⟩ (r.kr k)) f⟩
    | od xs =>
      obtain ⟨a, vs, rfl, e2, e3, r⟩ := ok
      obtain ⟨od, I1⟩ := I.lock e2 trivial
      exact h.run pins s0 σ _ Q I1 ⟨_, e1, fin q e1 (fun b n => upd_ne fun z => n (by simp [own1, DV.isO, z])) (fun O' h1 h2 k => .dic (h2 a (by simp [own1, DV.isO])) ⟨od, upd_same⟩ e3 (r.kr k)) f⟩
    | oi a C xs =>
      obtain ⟨dx, vs, rfl, e2, e3, r⟩ := ok
      exact h.run pins s0 σ H Q I ⟨_, e1, fin q e1 (fun _ _ => rfl) (fun O' h1 h2 k => .ins (h2 a (by simp [own1, DV.isO])) e2 e3 (r.kr k)) f⟩⟩
theorem dh_i {e : Expr} {g : DSt → Out Dat} (h : DE X W e g) : DH X W e (gI g) := PE.imp h fun σ H Q ⟨P, ex, s, rel, f⟩ => by
  unfold gI at f
  exact tG_seq rel f fun a s1 H1 b st r f1 => fin_ok f1 st.rel r
/-- a name in the i-th slot, for good; to be looked at -/
theorem dv (i : Nat) {x : Str} {pos : Pos} (hN : X.N[i]? = some x := by rfl) (hv : Vis X.env.scope x := by first | exact Or.inl rfl | exact Or.inr (Or.inl rfl) | exact Or.inr (Or.inr rfl)) (hd : (x == ("__debug__" : Str)) = false := by decide)
    (hcd : (x == ("__classdict__" : Str)) = false := by decide) : DE X W (.Name x pos) (gVar i) := de_v (pe_var hN hv hd hcd)
theorem dhv (i : Nat) {x : Str} {pos : Pos} (hN : X.N[i]? = some x := by rfl) (hv : Vis X.env.scope x := by first | exact Or.inl rfl | exact Or.inr (Or.inl rfl) | exact Or.inr (Or.inr rfl)) (hd : (x == ("__debug__" : Str)) = false := by decide)
    (hcd : (x == ("__classdict__" : Str)) = false := by decide) : DH X W (.Name x pos) (gH i) := dh_v (pe_var hN hv hd hcd)
def gNil : DSt → Out (List Dat) := fun s => .ok [] s
def gCons (g : DSt → Out Dat) (gs : DSt → Out (List Dat)) : DSt → Out (List Dat) := fun s => (g s).bind fun x s1 => (gs s1).bind fun xs s2 => .ok (x :: xs) s2
theorem da_nil : DA X W [] gNil := PA.imp pa_nil fun σ H Q ⟨P, ex, s, rel, f⟩ => fin_ok f rel Rps.nil
theorem da_cons {e : Expr} {es : List Expr} {g : DSt → Out Dat} {gs : DSt → Out (List Dat)} (h : DE X W e g) (t : DA X W es gs) (hs : starEach (e :: es) X.env = (false, eval e X.env) :: starEach es X.env := by rfl) : DA X W (e :: es) (gCons g gs) :=
  PA.imp (pa_cons h t hs) fun σ H Q ⟨P, ex, s, rel, f⟩ => by
    unfold gCons at f
    refine tG_seq rel f fun a s1 H1 b st r f1 => ?_
    refine tG_seq st.rel f1 fun as s2 H2 bs st2 rs f2 => ?_
    exact fin_ok f2 st2.rel (Rps.cons (Rp.step r st2) rs)
def gLst (g : DSt → Out (List Dat)) : DSt → Out Dat := fun s => (g s).bind fun xs s1 => if xs.length ≤ sizeLine then .ok (.lst xs) s1 else .no
def gTup (g : DSt → Out (List Dat)) : DSt → Out Dat := fun s => (g s).bind fun xs s1 => if xs.length ≤ sizeLine then .ok (.tup xs) s1 else .no
theorem Fin.if {K : PySem.W.Frag} {P : Addr} {ex : List Addr} {s : DSt} {σ : St} {H : Hp} {α β : Type} {R : RR α β} {Q : β → Hp → Prop} {c : Prop} [Decidable c] {o : Out α} (f : Fin K P ex R W σ s H Q (if c then o else .no)) : c ∧ Fin K P ex R W σ s H Q o := by
  by_cases h : c
  · rw [if_pos h] at f
    exact ⟨h, f⟩
  · rw [if_neg h] at f
    exact f.elim
theorem fin_new {K : PySem.W.Frag} {P : Addr} {ex : List Addr} {s : DSt} {σ : St} {H : Hp} {α : Type} {R : RR α V} {Q : V → Hp → Prop} {a : α} {p : Addr} {o : HO} (f : Fin K P ex R W σ s H Q (.ok a s)) (rel : Rel K P ex s σ H) (n : H p = none)
    (r : p ∉ OO P ex s σ → Kp (OO P ex s σ) H (upd H p o) → R P (OO P ex s σ) σ (upd H p o) (.ref p) a) : Q (.ref p) (upd H p o) := f _ _ (.new rel n) (r (rel.fresh n) (.upd n))
theorem de_lst {es : List Expr} {pos : Pos} {gs : DSt → Out (List Dat)} (t : DA X W es gs) : DE X W (.List es pos) (gLst gs) := PE.imp (pe_lst t) fun σ H Q ⟨P, ex, s, rel, f⟩ => by
  unfold gLst at f
  refine tG_seq rel f fun as s1 H1 bs st r f1 => ?_
  obtain ⟨h, f2⟩ := f1.if
  have r : Rps X.K P (OO P ex s1 σ) H1 bs as := r
  exact ⟨by rw [r.length]; exact h, fun p n => fin_new f2 st.rel n fun m k => .lst ⟨m, upd_same⟩ (r.kp k)⟩
theorem de_tup {es : List Expr} {x1} {pos : Pos} {gs : DSt → Out (List Dat)} (t : DA X W es gs) : DE X W (.Tuple es x1 pos) (gTup gs) := PE.imp (pe_tup t) fun σ H Q ⟨P, ex, s, rel, f⟩ => by
  unfold gTup at f
  refine tG_seq rel f fun as s1 H1 bs st r f1 => ?_
  obtain ⟨h, f2⟩ := f1.if
  have r : Rps X.K P (OO P ex s1 σ) H1 bs as := r
  exact ⟨by rw [r.length]; exact h, fun p n => fin_new f2 st.rel n fun m k => .tup (.inl ⟨m, .inl upd_same⟩) (r.kp k)⟩
/-- r, told of data -/
def D2 (X : Cx) (W : WX) (r : R2) (h : Dat → Dat → DSt → Out Dat) : Prop := ∀ P ex s σ H x y dx dy (Q : VK), Rel X.K P ex s σ H → Vw X.K P (OO P ex s σ) H x dx → Vw X.K P (OO P ex s σ) H y dy → Fin X.K P ex (RP X.K) W σ s H Q (h dx dy s) → r x y H Q
def D1 (X : Cx) (W : WX) (r : V → Hp → VK → Prop) (h : Dat → DSt → Out Dat) : Prop := ∀ P ex s σ H x dx (Q : VK), Rel X.K P ex s σ H → Vw X.K P (OO P ex s σ) H x dx → Fin X.K P ex (RP X.K) W σ s H Q (h dx s) → r x H Q
def gOp (h : Dat → Dat → DSt → Out Dat) (ga gb : DSt → Out (Nat ⊕ Dat)) : DSt → Out Dat := fun s => (ga s).bind fun x s1 => (gb s1).bind fun y s2 => match look s2 x, look s2 y with
  | some dx, some dy => h dx dy s2
  | _, _ => .no
def gUn (h : Dat → DSt → Out Dat) (ga : DSt → Out (Nat ⊕ Dat)) : DSt → Out Dat := fun s => (ga s).bind fun x s1 => match look s1 x with
  | some dx => h dx s1
  | _ => .no
theorem top_read {K : PySem.W.Frag} {P : Addr} {ex : List Addr} {r : R2} {h : Dat → Dat → DSt → Out Dat} {ga gb : DSt → Out (Nat ⊕ Dat)} (hd : D2 X W r h) {σ : St} {H : Hp} {Q : VK} (t : tG X.K (RP X.K) W (gOp h ga gb) σ H Q) : tOp r (tG X.K (RH X.K) W ga) (tG X.K (RH X.K) W gb) σ H Q := by
  obtain ⟨P, ex, s, rel, f⟩ := t
  unfold gOp at f
  refine tG_seq rel f fun hx s1 H1 x st rx f1 => ?_
  refine tG_seq st.rel f1 fun hy s2 H2 y st2 ry f2 => ?_
  cases e1 : look s2 hx with
  | none => rw [e1] at f2; exact f2.elim
  | some dx =>
    rw [e1] at f2
    cases e2 : look s2 hy with
    | none => rw [e2] at f2; exact f2.elim
    | some dy =>
      rw [e2] at f2
      exact hd P ex s2 σ H2 x y dx dy Q st2.rel (look_vw st2.rel (RH.step rx st2) e1) (look_vw st2.rel ry e2) f2
theorem de_op {a b : Expr} {op : Operator} {pos : Pos} {r : R2} {h : Dat → Dat → DSt → Out Dat} {ga gb : DSt → Out (Nat ⊕ Dat)} (ho : OpR X (binaryOp op) r) (hd : D2 X W r h) (ha : DH X W a ga) (hb : DH X W b gb) : DE X W (.BinOp a op b pos) (gOp h ga gb) :=
  PE.imp (pe_op ho ha hb) fun σ H Q t => top_read (K := X.K) (P := 0) (ex := []) hd t
theorem de_cmp {a b : Expr} {op : CmpOp} {pos : Pos} {r : R2} {h : Dat → Dat → DSt → Out Dat} {ga gb : DSt → Out (Nat ⊕ Dat)} (ho : OpR X (compareOp op) r) (hd : D2 X W r h) (ha : DH X W a ga) (hb : DH X W b gb) (hm : behindInMarks op b = false) : DE X W (.Compare a [op] [b] pos) (gOp h ga gb) :=
  PE.imp (pe_cmpR ho ha hb hm) fun σ H Q t => top_read (K := X.K) (P := 0) (ex := []) hd t
/-- an answer that is a truth value -/
def gB (g : DSt → Out Dat) : DSt → Out Bool := fun s => (g s).bind fun d s1 => match d with
  | .bl b => .ok b s1
  | _ => .no
theorem tb_read {t : TE} {g : DSt → Out Dat} {σ : St} {H : Hp} {Q : Bool → Hp → Prop} (i : ∀ Q', tG X.K (RP X.K) W g σ H Q' → t σ H Q') (q : tG X.K RB W (gB g) σ H Q) : t σ H fun x H' => ∃ k, x = .bl k ∧ Q k H' := by
  obtain ⟨P, ex, s, rel, f⟩ := q
  unfold gB at f
  refine i _ (tG_seq rel f fun d s1 H1 x st r f1 => ?_)
  cases d with
  | bl b =>
    cases (show Rp X.K P (OO P ex s1 σ) H1 x (.bl b) from r)
    exact ⟨b, rfl, fin_ok f1 st.rel rfl⟩
  | _ => exact f1.elim
theorem dt_cmp {a b : Expr} {op : CmpOp} {pos : Pos} {r : R2} {h : Dat → Dat → DSt → Out Dat} {ga gb : DSt → Out (Nat ⊕ Dat)} (ho : OpR X (compareOp op) r) (hd : D2 X W r h) (ha : DH X W a ga) (hb : DH X W b gb) (hm : behindInMarks op b = false) : DT X W (.Compare a [op] [b] pos) (gB (gOp h ga gb)) :=
  PT.imp (pt_cmpR ho ha hb hm) fun σ H Q t => tb_read (fun Q' t' => top_read (K := X.K) (P := 0) (ex := []) hd t') t
theorem dt_val {e : Expr} {g : DSt → Out Dat} (h : DE X W e g) (he : ∀ whole, isTrue e X.env whole = (do let v ← whole; standAt e.pos; holding [v] (truthy v)) := by intro _; rfl) : DT X W e (gB g) :=
  PT.imp (pt_val h he) fun σ H Q t => tb_read (fun Q' t' => t') t
def gNot (g : DSt → Out Bool) : DSt → Out Bool := fun s => (g s).bind fun b s1 => .ok (!b) s1
def gAnd (g h : DSt → Out Bool) : DSt → Out Bool := fun s => (g s).bind fun b s1 => if b = true then h s1 else .ok false s1
def gOr (g h : DSt → Out Bool) : DSt → Out Bool := fun s => (g s).bind fun b s1 => if b = true then .ok true s1 else h s1
def gIf (c : DSt → Out Bool) (g h : DSt → Out Dat) : DSt → Out Dat := fun s => (c s).bind fun b s1 => if b = true then g s1 else h s1
theorem dt_not {e : Expr} {pos : Pos} {g : DSt → Out Bool} (h : DT X W e g) : DT X W (.UnaryOp .Not e pos) (gNot g) := PT.imp (pt_not h) fun σ H Q ⟨P, ex, s, rel, f⟩ => by
  unfold gNot at f
  refine tG_seq rel f fun b s1 H1 x st r f1 => ?_
  obtain rfl : x = b := r
  exact fin_ok f1 st.rel rfl
theorem tor_read {g h : DSt → Out Bool} {σ : St} {H : Hp} {Q : Bool → Hp → Prop} (t : tG X.K RB W (gOr g h) σ H Q) : tOr (tG X.K RB W g) (tG X.K RB W h) σ H Q := by
  obtain ⟨P, ex, s, rel, f⟩ := t
  unfold gOr at f
  refine tG_seq rel f fun b s1 H1 x st r f1 => ?_
  obtain rfl : x = b := r
  cases x with
  | true => exact fin_ok f1 st.rel rfl
  | false => exact ⟨P, ex, s1, st.rel, f1⟩
abbrev DW (X : Cx) (W : WX) (e : Expr) (g : DSt → Out Bool) : Prop := PW X e (tG X.K RB W g)
theorem PW.imp {e : Expr} {t u : TT} (h : PW X e t) (i : ∀ σ H Q, u σ H Q → t σ H Q) : PW X e u := ⟨fun wh pins s σ H Q I q => h.run wh pins s σ H Q I (i σ H Q q)⟩
theorem dw_or1 {e : Expr} {pos : Pos} {g : DSt → Out Bool} (h : DT X W e g) : DW X W (.BoolOp .Or [e] pos) g := pw_or1 h
theorem dw_or {e b : Expr} {es : List Expr} {pos : Pos} {g k : DSt → Out Bool} (h : DT X W e g) (t : DW X W (.BoolOp .Or (b :: es) pos) k) : DW X W (.BoolOp .Or (e :: b :: es) pos) (gOr g k) := PW.imp (pw_or h t) fun σ H Q q => tor_read q
theorem de_if {c a b : Expr} {pos : Pos} {gc : DSt → Out Bool} {g h : DSt → Out Dat} (hc : DT X W c gc) (ha : DE X W a g) (hb : DE X W b h) : DE X W (.IfExp c a b pos) (gIf gc g h) := PE.imp (pe_ifExp hc ha hb) fun σ H Q ⟨P, ex, s, rel, f⟩ => by
  unfold gIf at f
  refine tG_seq rel f fun b s1 H1 x st r f1 => ?_
  obtain rfl : x = b := r
  cases x with
  | true => exact ⟨P, ex, s1, st.rel, f1⟩
  | false => exact ⟨P, ex, s1, st.rel, f1⟩
/-- and, or, not as values, of truth values -/
def gAndV (g h : DSt → Out Dat) : DSt → Out Dat := fun s => (g s).bind fun d s1 => match d with
  | .bl true => h s1
  | .bl false => .ok (.bl false) s1
  | _ => .no
def gOrV (g h : DSt → Out Dat) : DSt → Out Dat := fun s => (g s).bind fun d s1 => match d with
  | .bl false => h s1
  | .bl true => .ok (.bl true) s1
  | _ => .no
def gNotV (g : DSt → Out Dat) : DSt → Out Dat := fun s => (g s).bind fun d s1 => match d with
  | .bl b => .ok (.bl (!b)) s1
  | _ => .no
theorem de_and {e b : Expr} {es : List Expr} {pos : Pos} {g k : DSt → Out Dat} (h : DE X W e g) (t : DE X W (.BoolOp .And (b :: es) pos) k) : DE X W (.BoolOp .And (e :: b :: es) pos) (gAndV g k) := PE.imp (pe_and h t) fun σ H Q ⟨P, ex, s, rel, f⟩ => by
  unfold gAndV at f
  refine tG_seq rel f fun d s1 H1 x st r f1 => ?_
  cases d with
  | bl c =>
    cases (show Rp X.K P (OO P ex s1 σ) H1 x (.bl c) from r)
    cases c with
    | true => exact ⟨true, rfl, iteT ⟨P, ex, s1, st.rel, f1⟩⟩
    | false => exact ⟨false, rfl, iteF (fin_ok f1 st.rel (Rp.bl false))⟩
  | _ => exact f1.elim
theorem de_one {op} {e : Expr} {pos : Pos} {g : DSt → Out Dat} (h : DE X W e g) : DE X W (.BoolOp op [e] pos) g := pe_one h
theorem de_not {e : Expr} {pos : Pos} {g : DSt → Out Dat} (h : DE X W e g) : DE X W (.UnaryOp .Not e pos) (gNotV g) := PE.imp (pe_not h) fun σ H Q ⟨P, ex, s, rel, f⟩ => by
  unfold gNotV at f
  refine tG_seq rel f fun d s1 H1 x st r f1 => ?_
  cases d with
  | bl c =>
    cases (show Rp X.K P (OO P ex s1 σ) H1 x (.bl c) from r)
    exact ⟨c, rfl, fin_ok f1 st.rel (Rp.bl _)⟩
  | _ => exact f1.elim
end
end BD
namespace BD
open PySem PySem.Spec PyProof.Rows L2
def Out.bindS {α : Type} (o : Out α) (k : α → DSt → OutS) : OutS := match o with
  | .ok a s => k a s
  | .ex C fs p => .ex C fs p
  | .no => .no
section
variable {K : PySem.W.Frag} {P : Addr} {ex : List Addr} {s s1 : DSt} {σ σ1 : St} {H H1 : Hp} {W : WX} {D : Ends}
theorem tG_seqS {α β : Type} {R : RR α β} {g : DSt → Out α} {k : α → DSt → OutS} {Q1 : β → Hp → Prop} (rel : Rel K P ex s σ H) (f : FinS K P ex W σ s H D ((g s).bindS k))
    (h : ∀ a s1 H1 b, Step K P ex σ s H σ s1 H1 → R P (OO P ex s1 σ) σ H1 b a → FinS K P ex W σ s1 H1 D (k a s1) → Q1 b H1) : tG K R W g σ H Q1 := by
  refine ⟨P, ex, s, rel, ?_⟩
  cases e : g s with
  | ok a s1 =>
    rw [e] at f
    exact fun H1 b st r => h a s1 H1 b st r (FinS.go f st)
  | ex C fs p =>
    rw [e] at f
    exact fun H' od x => f σ H' od x
  | no =>
    rw [e] at f
    exact f
end
def gSet (i : Nat) (g : DSt → Out Dat) : DSt → OutS := fun s => (g s).bindS fun d s1 => .nx { s1 with env := s1.env.set i (.d d) }
def gRet (g : DSt → Out Dat) : DSt → OutS := fun s => (g s).bindS fun d s1 => .rt d s1.pen
def gRetN : DSt → OutS := fun s => .rt .non s.pen
def gDrop (g : DSt → Out Dat) : DSt → OutS := fun s => (g s).bindS fun _ s1 => .nx s1
def gIfS (c : DSt → Out Bool) (g h : DSt → OutS) : DSt → OutS := fun s => (c s).bindS fun b s1 => if b = true then g s1 else h s1
def gPass : DSt → OutS := fun s => .nx s
def gNever : DSt → OutS := fun _ => .no
def gSeq (g h : DSt → OutS) : DSt → OutS := fun s => match g s with
  | .nx s1 => h s1
  | o => o
section
variable {X : Cx} {W : WX}
theorem ds_set {i : Nat} {x : Str} {e : Expr} {pos pos' : Pos} {g : DSt → Out Dat} (hN : X.N.Nodup) (hi : X.N[i]? = some x) (hx : Loc X.env.scope x) (he : DE X W e g) (hs : swapsWith e (some (.Name x pos')) pos.line X.env = pure false := by rfl) (hf : X.fn x = true ∨ X.env.scope.names.lookup x = some .local := by first | exact .inl rfl | exact .inr rfl | assumption) :
    DS X W (.Assign [.Name x pos'] e pos) (gSet i g) := PS.imp (ps_set hN hi hx he hs hf) fun D σ H ⟨P, ex, s, rel, f⟩ => by
  unfold gSet at f
  exact tG_seqS rel f fun d s1 H1 v st r f1 => f1 _ _ (.set st.rel r)
theorem ret_step {K : PySem.W.Frag} {P : Addr} {ex : List Addr} {s : DSt} {σ : St} {H : Hp} {v : V} {d : Dat} (rel : Rel K P ex s σ H) (r : Rp K P (OO P ex s σ) H v d) : RStep K P ex σ s H H d s.pen v := by
  have sub : ∀ a ∈ P :: ex, a ∈ OO P ex s σ := fun a ha => by
    rcases List.mem_cons.mp ha with h | h
    · exact oo_mem.mpr (.inl h)
    · exact oo_mem.mpr (.inr (.inl h))
  exact ⟨Kp.refl, fun _ _ => rfl, rel.pen.anti sub, r.anti sub⟩
theorem ds_ret {e : Expr} {pos : Pos} {g : DSt → Out Dat} (he : DE X W e g) : DS X W (.Return (some e) pos) (gRet g) := PS.imp (ps_ret he) fun D σ H ⟨P, ex, s, rel, f⟩ => by
  unfold gRet at f
  exact tG_seqS rel f fun d s1 H1 v st r f1 => f1 _ _ (ret_step st.rel r)
theorem ds_expr {e : Expr} {pos : Pos} {g : DSt → Out Dat} (he : DE X W e g) (hs : swapsWith e none pos.line X.env = pure false := by rfl) : DS X W (.Expr e pos) (gDrop g) := PS.imp (ps_expr he hs) fun D σ H ⟨P, ex, s, rel, f⟩ => by
  unfold gDrop at f
  exact tG_seqS rel f fun d s1 H1 v st r f1 => f1 _ _ (.refl st.rel)
theorem ds_never {st : Stmt} : DS X W st gNever := ⟨fun _ _ _ _ _ _ ⟨_, _, _, _, f⟩ => f.elim⟩
theorem ds_if {c : Expr} {a b : List Stmt} {pos : Pos} {gc : DSt → Out Bool} {g h : DSt → OutS} (hc : DT X W c gc) (ha : DSs X W a g) (hb : DSs X W b h) : DS X W (.If c a b pos) (gIfS gc g h) := PS.imp (ps_if hc ha hb) fun D σ H ⟨P, ex, s, rel, f⟩ => by
  unfold gIfS at f
  refine tG_seqS rel f fun b s1 H1 x st r f1 => ?_
  obtain rfl : x = b := r
  cases x with
  | true => exact ⟨P, ex, s1, st.rel, f1⟩
  | false => exact ⟨P, ex, s1, st.rel, f1⟩
theorem dss_nil : DSs X W [] gPass := PSs.imp pss_nil fun D σ H ⟨P, ex, s, rel, f⟩ => f _ _ (.refl rel)
theorem dss_one {st : Stmt} {g : DSt → OutS} (h : DS X W st g) : DSs X W [st] g := pss_one h
theorem dss_cons {st : Stmt} {rest : List Stmt} {g h : DSt → OutS} (h1 : DS X W st g) (h2 : DSs X W rest h) : DSs X W (st :: rest) (gSeq g h) := PSs.imp (pss_cons h1 h2) fun D σ H ⟨P, ex, s, rel, f⟩ => by
  unfold gSeq at f
  refine ⟨P, ex, s, rel, ?_⟩
  cases e : g s with
  | nx s1 =>
    rw [e] at f
    exact fun σ' H' st => ⟨P, ex, s1, st.rel, FinS.go f st⟩
  | rt d p => rw [e] at f; exact f
  | bk s1 => rw [e] at f; exact f
  | ct s1 => rw [e] at f; exact f
  | ex C fs p => rw [e] at f; exact f
  | no => rw [e] at f; exact f
end
abbrev FD := List Dat → Pen → OutF
def spD (K : PySem.W.Frag) (n : Nat) (F : FD) : Sp := fun vs H Q E => vs.length = n ∧ ∃ P ex ds p, (P :: ex).Nodup ∧ (∀ a ∈ ex, ∃ o, H a = some o) ∧ PenOk P (P :: ex) H p ∧ Rps K P (P :: ex) H vs ds ∧ (match F ds p with
  | .ok d p' => ∀ v H', Kp (P :: ex) H H' → (∀ a ∈ ex, H' a = H a) → PenOk P (P :: ex) H' p' → Rp K P (P :: ex) H' v d → Q v H'
  | .ex C fs p' => ∀ H' od, Kp (P :: ex) H H' → (∀ a ∈ ex, H' a = H a) → PenOk P (P :: ex) H' p' → ErrAt K P (P :: ex) H' od fs → E (.ref C) od H'
  | .no => False)
/-- the function of a body -/
def run (m : Nat) (g : DSt → OutS) : FD := fun ds p => match g ⟨ds.map .d ++ List.replicate m .no, p⟩ with
  | .nx s => .ok .non s.pen
  | .rt d p' => .ok d p'
  | .ex C fs p' => .ex C fs p'
  | _ => .no
/-- a function that is told where it is told -/
def Le (F G : FD) : Prop := ∀ ds p, F ds p = .no ∨ G ds p = F ds p
theorem owns_plain {vs : List V} {ds : List Dat} {m : Nat} : owns (ds.map DV.d ++ List.replicate m .no) (vs.map some ++ List.replicate m none) = [] := by
  have h0 : ∀ m : Nat, owns (List.replicate m DV.no) (List.replicate m none) = [] := fun m => by
    induction m with
    | zero => rfl
    | succ m ih =>
      rw [List.replicate_succ, List.replicate_succ, owns, ih]
      rfl
  have h1 : ∀ (es : List DV) (σ : St), (∀ e ∈ es, e.isO = false) → owns es σ = [] := fun es => by
    induction es with
    | nil => intro σ _; cases σ <;> rfl
    | cons e es ih =>
      intro σ h
      cases σ with
      | nil => rfl
      | cons r σ =>
        rw [owns, ih σ fun e' he' => h e' (List.mem_cons_of_mem _ he')]
        have := h e (List.mem_cons_self ..)
        cases r with
        | none => simp [own1]
        | some v => simp [own1, this]
  refine h1 _ _ fun e he => ?_
  rcases List.mem_append.mp he with he | he
  · obtain ⟨d, _, rfl⟩ := List.mem_map.mp he
    rfl
  · obtain ⟨_, rfl⟩ := List.mem_replicate.mp he
    rfl
theorem rel_start {K : PySem.W.Frag} {P : Addr} {ex : List Addr} {H : Hp} {vs : List V} {ds : List Dat} {p : Pen} {m : Nat} (h1 : (P :: ex).Nodup) (h2 : ∀ a ∈ ex, ∃ o, H a = some o) (h3 : PenOk P (P :: ex) H p) (h4 : Rps K P (P :: ex) H vs ds) :
    Rel K P ex ⟨ds.map .d ++ List.replicate m .no, p⟩ (vs.map some ++ List.replicate m none) H ∧ OO P ex ⟨ds.map .d ++ List.replicate m .no, p⟩ (vs.map some ++ List.replicate m none) = P :: ex := by
  have e : OO P ex ⟨ds.map .d ++ List.replicate m .no, p⟩ (vs.map some ++ List.replicate m none) = P :: ex := by
    unfold OO
    rw [owns_plain, List.append_nil]
  refine ⟨⟨by rw [e]; exact h1, ?_, by rw [e]; exact h3, h2⟩, e⟩
  rw [e]
  have a : ∀ m : Nat, Paired (SlotOk K P (P :: ex) H) (List.replicate m DV.no) (List.replicate m none) := fun m => by
    induction m with
    | zero => exact .nil
    | succ m ih => exact .cons trivial ih
  have b : ∀ {vs : List V} {ds : List Dat}, Rps K P (P :: ex) H vs ds → Paired (SlotOk K P (P :: ex) H) (ds.map .d ++ List.replicate m .no) (vs.map some ++ List.replicate m none) := by
    intro vs ds h
    induction ds generalizing vs with
    | nil =>
      cases h
      exact a m
    | cons d ds ih =>
      cases h with
      | cons h t => exact .cons ⟨_, rfl, h⟩ (ih t)
  exact b h4
end BD
namespace BD
open PySem PySem.Spec PyProof.Rows L2
structure FnD (P : Program) (w : World) (K : PySem.W.Frag) (mg : Str → Option Value) (base : Heap) (CX : CXT) (k : Nat) (f : Addr) (fd : FuncData) (ps : List Str) (G : FD) : Prop where
  fn : FnOk P w K mg base CX k f fd ps (spD K ps.length G)
  len : ∀ ds p, G ds p ≠ .no → ds.length = ps.length
def W0 : WX := fun _ _ _ _ => False
section
variable {P : Program} {w : World} {K : PySem.W.Frag} {mg : Str → Option Value} {base : Heap}
theorem fin_run {W : WX} {N ps : List Str} {G : FD} {g : DSt → OutS} {vs : List V} {H : Hp} {Q : VK} {E : XK} (hle : Le G (run (N.length - ps.length) g)) (hW : ∀ C od σ H', E C od H' → W C od σ H') (q : spD K ps.length G vs H Q E) :
    tS K W g { nx := fun _ H' => Q .non H', rt := Q } (L2.start N vs) H := by
  obtain ⟨hl, P, ex, ds, p, h1, h2, h3, h4, h5⟩ := q
  have hs : L2.start N vs = vs.map some ++ List.replicate (N.length - ps.length) none := by
    unfold L2.start
    rw [hl]
  obtain ⟨rel, eo⟩ := rel_start (m := N.length - ps.length) h1 h2 h3 h4
  rw [hs]
  refine ⟨P, ex, _, rel, ?_⟩
  rcases hle ds p with e | e
  · rw [e] at h5
    exact h5.elim
  · rw [← e] at h5
    unfold run at h5
    have sub : ∀ (s' : DSt) (σ' : St), ∀ a ∈ P :: ex, a ∈ OO P ex s' σ' := fun s' σ' a ha => by
      rcases List.mem_cons.mp ha with h | h
      · exact oo_mem.mpr (.inl h)
      · exact oo_mem.mpr (.inr (.inl h))
    cases q : g ⟨ds.map .d ++ List.replicate (N.length - ps.length) .no, p⟩ with
    | nx s' =>
      rw [q] at h5
      intro σ' H' st
      have k := st.keep
      rw [eo] at k
      exact h5 .non H' k st.exk (st.rel.pen.anti (sub _ _)) .non
    | rt d p' =>
      rw [q] at h5
      intro v H' st
      have k := st.keep
      rw [eo] at k
      exact h5 v H' k st.exk st.pen st.val
    | ex C fs p' =>
      rw [q] at h5
      intro σ' H' od st
      have k := st.keep
      rw [eo] at k
      exact hW _ _ _ _ (h5 H' od k st.exk st.pen st.err)
    | bk s' => rw [q] at h5; exact h5.elim
    | ct s' => rw [q] at h5; exact h5.elim
    | no => rw [q] at h5; exact h5.elim
/-- a def that nothing leaves but what it returns -/
theorem fnD {x qual : Str} {st : Stmt} {f : Addr} {fd : FuncData} {N ps : List Str} {k : Nat} {G : FD} (F : Fun K x qual st f fd) (S : FnScope N ps (defScope st)) (hlen : ∀ ds p, G ds p ≠ .no → ds.length = ps.length) (hne : ∀ ds p C fs p', G ds p ≠ .ex C fs p')
    (hbody : ∀ (cdv : Value) (A : Around) (outer : List Env) (s : Shared) (H : Hp) (E : XK), Room k (A.deeper (envOfC qual (defScope st) s.heap.objs.size f cdv)) →
      ∃ g, DSs (cxOf CX0 P w K mg base N qual (defScope st) f cdv A outer s H E).nox W0 (defBody st) g ∧ Le G (run (N.length - ps.length) g)) : FnD P w K mg base CX0 (k + 1) f fd ps G := by
  refine ⟨F.ok S (fun vs H Q E h => h.1) fun cdv A outer s H vs Q E hr h => ?_, hlen⟩
  obtain ⟨g, hg, hle⟩ := hbody cdv A outer s H E hr
  have h' : spD K ps.length G vs H Q fun _ _ _ => False := by
    obtain ⟨hl, P, ex, ds, p, h1, h2, h3, h4, h5⟩ := h
    refine ⟨hl, P, ex, ds, p, h1, h2, h3, h4, ?_⟩
    cases q : G ds p with
    | ok d p' => rw [q] at h5; exact h5
    | ex C fs p' => exact (hne _ _ _ _ _ q).elim
    | no => rw [q] at h5; exact h5
  exact ⟨_, hg, fin_run hle (fun _ _ _ _ z => z) h'⟩
end
def gCall (G : FD) (ga : DSt → Out (List Dat)) : DSt → Out Dat := fun s => (ga s).bind fun ds s1 => match G ds s1.pen with
  | .ok d p => .ok d { s1 with pen := p }
  | .ex C fs p => .ex C fs p
  | .no => .no
section
variable {X : Cx} {W : WX} {CX : CXT}
theorem sp_call {K : PySem.W.Frag} {P : Addr} {ex : List Addr} {s1 : DSt} {σ : St} {H1 : Hp} {n : Nat} {G : FD} {ds : List Dat} {vs : List V} {Q : VK} {E : XK} (rel : Rel K P ex s1 σ H1) (hl : ∀ ds p, G ds p ≠ .no → ds.length = n) (r : Rps K P (OO P ex s1 σ) H1 vs ds)
    (hE : ∀ C fs p H' od, G ds s1.pen = .ex C fs p → XStep K P ex σ s1 H1 H' fs p od → E (.ref C) od H')
    (f : Fin K P ex (RP K) W σ s1 H1 Q (match G ds s1.pen with | .ok d p => .ok d { s1 with pen := p } | .ex C fs p => .ex C fs p | .no => .no)) : spD K n G vs H1 Q E := by
  have sub : ∀ a ∈ P :: ex, a ∈ OO P ex s1 σ := fun a ha => by
    rcases List.mem_cons.mp ha with h | h
    · exact oo_mem.mpr (.inl h)
    · exact oo_mem.mpr (.inr (.inl h))
  have hn : G ds s1.pen ≠ .no := fun z => by rw [z] at f; exact f
  refine ⟨r.length.trans (hl _ _ hn), P, ex ++ owns s1.env σ, ds, s1.pen, rel.nd, fun a ha => rel.there a (List.mem_cons_of_mem _ ha), rel.pen, r, ?_⟩
  cases q : G ds s1.pen with
  | ok d p =>
    rw [q] at f
    intro v H' k e hp hv
    exact f H' v ⟨rel.move k e hp, k, fun a ha => e a (List.mem_append_left _ ha), fun _ h => .inl h⟩ hv
  | ex C fs p =>
    intro H' od k e hp he
    refine hE C fs p H' od q ⟨k, fun a ha => e a (List.mem_append_left _ ha), hp.anti sub, ?_⟩
    rcases he with he | ⟨d, vfs, h1, h2, h3, h4⟩
    · exact .inl he
    · exact .inr ⟨d, vfs, h1, h2, h3, h4.anti sub⟩
  | no => exact hn q
theorem de_call {k : Nat} {f : Addr} {fd : FuncData} {ps : List Str} {G : FD} {x : Str} {p pos : Pos} {e : Expr} {es : List Expr} {ga : DSt → Out (List Dat)} (F : FnD X.prog X.w X.K X.mg X.base CX0 k f fd ps G) (hne : ∀ ds p C fs p', G ds p ≠ .ex C fs p') (hr : Room k X.A) (hg : Gl X x) (hm : X.mg x = some (.ref f)) (hk : PySem.W.keepIn X.K (.ref f) = true) (hb : Binds X.K fd ps [])
    (ha : DA X W (e :: es) ga) (hdb : (x == ("__debug__" : Str)) = false := by decide) (he : starEach (e :: es) X.env = (false, eval e X.env) :: starEach es X.env := by rfl) (hpl : (backTo pos (starEach es X.env)).any (·.1) = false := by rfl) :
    DE X W (.Call (.Name x p) (e :: es) [] pos) (gCall G ga) := PE.imp (pe_call F.fn hr hg hm hk hb .nil pass0 ha hdb he hpl) fun σ H Q ⟨P, ex, s, rel, f⟩ => by
  unfold gCall at f
  refine tG_seq rel f fun ds s1 H1 vs st r f1 => ?_
  rw [List.append_nil]
  exact sp_call st.rel F.len r (fun C fs p H' od q _ => (hne _ _ _ _ _ q).elim) f1
end
end BD
namespace BD
open PySem PySem.Spec PyProof.Rows L2
theorem owns_append : ∀ {es : List DV} {σ : St} {fs : List DV} {τ : St}, es.length = σ.length → owns (es ++ fs) (σ ++ τ) = owns es σ ++ owns fs τ
  | [], [], _, _, _ => rfl
  | e :: es, r :: σ, fs, τ, h => by
    show own1 e r ++ owns (es ++ fs) (σ ++ τ) = (own1 e r ++ owns es σ) ++ owns fs τ
    rw [owns_append (by simpa using h), List.append_assoc]
theorem owns_same {e e' : DV} {r : Option V} (q : own1 e' r = own1 e r) : ∀ {es : List DV} {σ : St} {i : Nat}, es[i]? = some e → σ[i]? = some r → owns (es.set i e') σ = owns es σ
  | [], _, _, h, _ => by simp at h
  | _ :: _, [], _, _, h => by simp at h
  | e0 :: es, r0 :: σ, 0, h, h' => by
    simp at h h'
    subst h h'
    simp [owns, q]
  | e0 :: es, r0 :: σ, i + 1, h, h' => by
    simp only [List.set_cons_succ, owns]
    rw [owns_same q (by simpa using h) (by simpa using h')]
theorem Paired.append {α β : Type} {F : α → β → Prop} : ∀ {l l' : List α} {m m' : List β}, Paired F l m → Paired F l' m' → Paired F (l ++ l') (m ++ m')
  | _, _, _, _, .nil, q => q
  | _, _, _, _, .cons h t, q => .cons h (Paired.append t q)
theorem Paired.split {α β : Type} {F : α → β → Prop} : ∀ {l l' : List α} {m m' : List β}, l.length = m.length → Paired F (l ++ l') (m ++ m') → Paired F l m ∧ Paired F l' m'
  | [], _, [], _, _, q => ⟨.nil, q⟩
  | a :: l, _, b :: m, _, h, .cons h1 t => let ⟨q1, q2⟩ := Paired.split (by simpa using h) t; ⟨.cons h1 q1, q2⟩
section
variable {K : PySem.W.Frag} {P : Addr} {ex : List Addr} {s s1 : DSt} {σ σ1 : St} {H H' H1 : Hp} {a p : Addr} {e e' : DV} {v : V} {x : Dat} {i : Nat} {o o' : HO}
theorem Rel.lens (r : Rel K P ex s σ H) : s.env.length = σ.length := Paired.length r.sl
/-- plain data held for a while -/
theorem Step.push (r : Rel K P ex s σ H) (h : Rp K P (OO P ex s σ) H v x) : Step K P ex σ s H (σ ++ [some v]) { s with env := s.env ++ [.d x] } H := by
  have e : owns (s.env ++ [.d x]) (σ ++ [some v]) = owns s.env σ := by
    rw [owns_append r.lens]
    simp [owns, own1, DV.isO]
  have eo : OO P ex { s with env := s.env ++ [.d x] } (σ ++ [some v]) = OO P ex s σ := by
    show P :: (ex ++ owns (s.env ++ [.d x]) (σ ++ [some v])) = _
    rw [e]
    rfl
  refine ⟨⟨by rw [eo]; exact r.nd, by rw [eo]; exact Paired.append r.sl (.cons ⟨v, rfl, h⟩ .nil), by rw [eo]; exact r.pen, r.exs⟩, Kp.refl, fun _ _ => rfl, fun b hb => .inl ?_⟩
  rw [← e]
  exact hb
/-- a new thing that is held alone -/
theorem Step.pushO (r : Rel K P ex s σ H) (n : H p = none) (ho : e.isO = true) (h : ∀ O, Kr (OO P ex s σ) O H (upd H p o) → SlotOk K P O (upd H p o) e (some (.ref p))) : Step K P ex σ s H (σ ++ [some (.ref p)]) { s with env := s.env ++ [e] } (upd H p o) := by
  have e1 : owns (s.env ++ [e]) (σ ++ [some (.ref p)]) = owns s.env σ ++ [p] := by
    rw [owns_append r.lens]
    simp [owns, own1, ho]
  have eo : OO P ex { s with env := s.env ++ [e] } (σ ++ [some (.ref p)]) = OO P ex s σ ++ [p] := by
    show P :: (ex ++ owns (s.env ++ [e]) (σ ++ [some (.ref p)])) = P :: (ex ++ owns s.env σ) ++ [p]
    rw [e1]
    simp
  have f := r.fresh n
  have kr : Kr (OO P ex s σ) (OO P ex s σ ++ [p]) H (upd H p o) := by
    refine ⟨fun b nb u eb => ?_, .new n⟩
    have ne := ne_of_none eb n
    refine ⟨fun z => ?_, by rw [upd_ne ne]; exact .inl eb⟩
    rcases List.mem_append.mp z with z | z
    · exact nb z
    · exact ne (by simpa using z)
  have q : ∀ b ∈ OO P ex s σ, upd H p o b = H b := fun b hb => upd_ne fun z => f (z ▸ hb)
  refine ⟨⟨?_, ?_, ?_, fun b hb => ?_⟩, .upd n, fun b hb => q b (oo_mem.mpr (.inr (.inl hb))), fun b hb => ?_⟩
  · rw [eo, List.nodup_append]
    exact ⟨r.nd, by simp, fun b hb c hc z => f (by have : c = p := by simpa using hc
                                                   rw [← this, ← z]; exact hb)⟩
  · rw [eo]
    exact Paired.append (Paired.own r.sl fun e' r' hb h' => h'.kr kr fun b hb' => q b (oo_mem.mpr (.inr (.inr (hb b hb'))))) (.cons (h _ kr) .nil)
  · rw [eo]
    obtain ⟨c, h1, h2, h3⟩ := r.pen.at_
    exact ⟨⟨c, (q P (oo_mem.mpr (.inl rfl))).trans h1, (kr.1 c h2 _ h3).1, (kr.1 c h2 _ h3).2.nt⟩, r.pen.lo, r.pen.hi, r.pen.gg, r.pen.tab.still kr.2 (.upd (.none n)), r.pen.n⟩
  · obtain ⟨u, eu⟩ := r.exs b hb
    exact ⟨u, (q b (oo_mem.mpr (.inr (.inl hb)))).trans eu⟩
  · have hb' : b ∈ owns s.env σ ++ [p] := by rw [← e1]; exact hb
    rcases List.mem_append.mp hb' with z | z
    · exact .inl z
    · exact .inr (by rw [show b = p by simpa using z]; exact n)
/-- what is held goes into a slot -/
theorem Step.store {env1 : List DV} {pn : Pen} {dvs : List DV} {r : Option V} {rs : St} (x : Step K P ex σ s H (σ1 ++ r :: rs) ⟨env1 ++ e :: dvs, pn⟩ H') (hl : env1.length = σ1.length) (i : Nat) : Step K P ex σ s H (σ1.set i r ++ rs) ⟨env1.set i e ++ dvs, pn⟩ H' := by
  have e1 : owns (env1 ++ e :: dvs) (σ1 ++ r :: rs) = owns env1 σ1 ++ (own1 e r ++ owns dvs rs) := owns_append hl
  have e2 : owns (env1.set i e ++ dvs) (σ1.set i r ++ rs) = owns (env1.set i e) (σ1.set i r) ++ owns dvs rs := owns_append (by simpa using hl)
  have sub : ∀ b ∈ owns (env1.set i e ++ dvs) (σ1.set i r ++ rs), b ∈ owns (env1 ++ e :: dvs) (σ1 ++ r :: rs) := fun b hb => by
    rw [e1]
    rw [e2] at hb
    rcases List.mem_append.mp hb with z | z
    · rcases owns_set i b z with z | z
      · exact List.mem_append_right _ (List.mem_append_left _ z)
      · exact List.mem_append_left _ z
    · exact List.mem_append_right _ (List.mem_append_right _ z)
  have sub' : ∀ b ∈ OO P ex ⟨env1.set i e ++ dvs, pn⟩ (σ1.set i r ++ rs), b ∈ OO P ex ⟨env1 ++ e :: dvs, pn⟩ (σ1 ++ r :: rs) := fun b hb => oo_mem.mpr ((oo_mem.mp hb).imp id fun q => q.imp id (sub b))
  obtain ⟨c1, c2, c3, c4, c5⟩ := x.rel.sep
  have c5' : (owns env1 σ1 ++ (own1 e r ++ owns dvs rs)).Nodup := e1 ▸ c5
  rw [List.nodup_append, List.nodup_append] at c5'
  obtain ⟨d1, ⟨d2, d3, d4⟩, d5⟩ := c5'
  refine ⟨⟨?_, ?_, x.rel.pen.anti sub', x.rel.exs⟩, x.keep, x.exk, fun b hb => x.own b (sub b hb)⟩
  · unfold OO
    rw [List.nodup_cons, List.nodup_append]
    refine ⟨fun m => ?_, c4, ?_, fun a ha b hb z => c3 a ha (z ▸ sub b hb)⟩
    · rcases List.mem_append.mp m with m | m
      · exact c1 m
      · exact c2 (sub _ m)
    · show (owns (env1.set i e ++ dvs) (σ1.set i r ++ rs)).Nodup
      rw [e2, List.nodup_append]
      refine ⟨owns_nodup (own1_nodup _ _) i d1 (fun b hb z => d5 b z b (List.mem_append_left _ hb) rfl), d3, fun b hb c hc z => ?_⟩
      rcases owns_set i b hb with q | q
      · exact d4 b q c hc z
      · exact d5 b q c (List.mem_append_right _ hc) z
  · obtain ⟨p1, p2⟩ := Paired.split hl x.rel.sl
    cases p2 with
    | cons h2 t2 =>
      have q := Paired.append (Paired.setP h2 i p1) t2
      exact Paired.own q fun e' r' _ h => h.kr (.anti sub') fun _ _ => rfl
/-- a thing that a slot alone holds is changed -/
theorem Step.mut (r : Rel K P ex s σ H) (h : s.env[i]? = some e) (hs : σ[i]? = some (some (.ref a))) (ho : e.isO = true) (ho' : e'.isO = true) (new : Kp (OO P ex s σ) H (upd H a o) → SlotOk K P (OO P ex s σ) (upd H a o) e' (some (.ref a))) :
    Step K P ex σ s H σ { s with env := s.env.set i e' } (upd H a o) := by
  obtain ⟨c1, c2, c3, c4, c5⟩ := r.sep
  have e1 : owns (s.env.set i e') σ = owns s.env σ := owns_same (by simp [own1, ho, ho']) h hs
  have eo : OO P ex { s with env := s.env.set i e' } σ = OO P ex s σ := by
    show P :: (ex ++ owns (s.env.set i e') σ) = _
    rw [e1]
    rfl
  have m : a ∈ owns s.env σ := own1_sub h hs a (by simp [own1, ho])
  obtain ⟨u0, eu0, ok0⟩ := r.slot h
  rw [hs] at eu0
  cases eu0
  have kp : Kp (OO P ex s σ) H (upd H a o) := .updO (oo_mem.mpr (.inr (.inr m))) (ok0.nofz a (by simp [own1, ho]))
  have p0 : Paired (fun e'' r'' => (SlotOk K P (OO P ex s σ) H e'' r'' ∧ a ∉ own1 e'' r'') ∨ (e'' = e' ∧ r'' = some (.ref a))) (s.env.set i e') (σ.set i (some (.ref a))) := by
    have gen : ∀ {es : List DV} {τ : St} {i : Nat}, Paired (SlotOk K P (OO P ex s σ) H) es τ → (owns es τ).Nodup → es[i]? = some e → τ[i]? = some (some (.ref a)) → Paired (fun e'' r'' => (SlotOk K P (OO P ex s σ) H e'' r'' ∧ a ∉ own1 e'' r'') ∨ (e'' = e' ∧ r'' = some (.ref a))) (es.set i e') (τ.set i (some (.ref a))) := by
      intro es τ i p
      induction p generalizing i with
      | nil => intro _ h; simp at h
      | @cons e0 r0 l m' h0 t ih =>
        intro nd h h'
        rw [owns, List.nodup_append] at nd
        cases i with
        | zero =>
          simp at h h'
          subst h h'
          refine .cons (.inr ⟨rfl, rfl⟩) (Paired.own t fun e'' r'' hb q => .inl ⟨q, fun z => nd.2.2 a (by simp [own1, ho]) a (hb a z) rfl⟩)
        | succ i =>
          refine .cons (.inl ⟨h0, fun z => nd.2.2 a z a (own1_sub (by simpa using h) (by simpa using h') a (by simp [own1, ho])) rfl⟩) (ih nd.2.1 (by simpa using h) (by simpa using h'))
    exact gen r.sl c5 h hs
  rw [set_same hs] at p0
  refine ⟨⟨by rw [eo]; exact r.nd, ?_, ?_, fun b hb => ?_⟩, kp, fun b hb => ?_, fun b hb => .inl (by rw [← e1]; exact hb)⟩
  · rw [eo]
    refine Paired.own p0 fun e'' r'' _ q => ?_
    rcases q with ⟨q, n⟩ | ⟨rfl, rfl⟩
    · exact q.mono kp fun b hb => upd_ne fun z => n (z ▸ hb)
    · exact new kp
  · rw [eo]
    exact r.pen.mono kp (upd_ne fun z => c2 (z ▸ m)) (.upd (ok0.nofz a (by simp [own1, ho])))
  · obtain ⟨u, eu⟩ := r.exs b hb
    exact ⟨u, (show upd H a o b = H b from upd_ne fun (z : b = a) => c3 b hb (by rw [z]; exact m)).trans eu⟩
  · show upd H a o b = H b
    exact upd_ne fun (z : b = a) => c3 b hb (by rw [z]; exact m)
end
def tN (K : PySem.W.Frag) (W : WX) (g : DSt → Out DV) : TE := fun σ H Q => ∃ P ex s, Rel K P ex s σ H ∧ (match g s with
  | .ok dv s' => ∀ H' v, Step K P ex σ s H (σ ++ [some v]) { s' with env := s'.env ++ [dv] } H' → Q v H'
  | .ex C fs p => ∀ H' od, XStep K P ex σ s H H' fs p od → W (.ref C) od σ H'
  | .no => False)
def tNs (K : PySem.W.Frag) (W : WX) (g : DSt → Out (List DV)) : TA := fun σ H Q => ∃ P ex s, Rel K P ex s σ H ∧ (match g s with
  | .ok dvs s' => ∀ H' vs, vs.length = dvs.length → Step K P ex σ s H (σ ++ vs.map some) { s' with env := s'.env ++ dvs } H' → Q vs H'
  | .ex C fs p => ∀ H' od, XStep K P ex σ s H H' fs p od → W (.ref C) od σ H'
  | .no => False)
abbrev DN (X : Cx) (W : WX) (e : Expr) (g : DSt → Out DV) : Prop := PE X e (tN X.K W g)
abbrev DNs (X : Cx) (W : WX) (es : List Expr) (g : DSt → Out (List DV)) : Prop := PA X es (tNs X.K W g)
def gN (g : DSt → Out Dat) : DSt → Out DV := fun s => (g s).bind fun d s1 => .ok (.d d) s1
def gNl (g : DSt → Out (List Dat)) : DSt → Out DV := fun s => (g s).bind fun xs s1 => if xs.length ≤ sizeLine then .ok (.ol xs) s1 else .no
section
variable {X : Cx} {W : WX}
/-- one part, then something that is made -/
theorem tG_seqN {K : PySem.W.Frag} {P : Addr} {ex : List Addr} {s : DSt} {σ : St} {H : Hp} {α β : Type} {R : RR α β} {g : DSt → Out α} {k : α → DSt → Out DV} {Q1 : β → Hp → Prop} {Q : V → Hp → Prop} (rel : Rel K P ex s σ H)
    (f : match (g s).bind k with | .ok dv s' => ∀ H' v, Step K P ex σ s H (σ ++ [some v]) { s' with env := s'.env ++ [dv] } H' → Q v H' | .ex C fs p => ∀ H' od, XStep K P ex σ s H H' fs p od → W (.ref C) od σ H' | .no => False)
    (h : ∀ a s1 H1 b, Step K P ex σ s H σ s1 H1 → R P (OO P ex s1 σ) σ H1 b a → (match k a s1 with | .ok dv s' => ∀ H' v, Step K P ex σ s1 H1 (σ ++ [some v]) { s' with env := s'.env ++ [dv] } H' → Q v H' | .ex C fs p => ∀ H' od, XStep K P ex σ s1 H1 H' fs p od → W (.ref C) od σ H' | .no => False) → Q1 b H1) : tG K R W g σ H Q1 := by
  refine ⟨P, ex, s, rel, ?_⟩
  cases e : g s with
  | ok a s1 =>
    rw [e] at f
    intro H1 b st r
    refine h a s1 H1 b st r ?_
    have f : match k a s1 with | .ok dv s' => ∀ H' v, Step K P ex σ s H (σ ++ [some v]) { s' with env := s'.env ++ [dv] } H' → Q v H' | .ex C fs p => ∀ H' od, XStep K P ex σ s H H' fs p od → W (.ref C) od σ H' | .no => False := f
    cases q : k a s1 with
    | ok dv s2 =>
      rw [q] at f
      exact fun H' v x => f H' v (st.trans x)
    | ex C fs p =>
      rw [q] at f
      exact fun H' od x => f H' od (x.back st)
    | no =>
      rw [q] at f
      exact f
  | ex C fs p =>
    rw [e] at f
    exact f
  | no =>
    rw [e] at f
    exact f
theorem dn_of {e : Expr} {g : DSt → Out Dat} (h : DE X W e g) : DN X W e (gN g) := PE.imp h fun σ H Q ⟨P, ex, s, rel, f⟩ => by
  unfold gN at f
  exact tG_seqN rel f fun d s1 H1 v st r f1 => f1 H1 v (.push st.rel r)
def gNnil : DSt → Out (List DV) := fun s => .ok [] s
def gNcons (g : DSt → Out DV) (gs : DSt → Out (List DV)) : DSt → Out (List DV) := fun s => (g s).bind fun x s1 => (gs s1).bind fun xs s2 => .ok (x :: xs) s2
theorem dns_nil : DNs X W [] gNnil := PA.imp pa_nil fun σ H Q ⟨P, ex, s, rel, f⟩ => f H [] rfl (by simpa using Step.refl rel)
end
end BD
namespace BD
open PySem PySem.Spec PyProof.Rows L2
section
variable {K : PySem.W.Frag} {P : Addr} {ex : List Addr} {s : DSt} {σ τ : St} {H H1 H2 : Hp} {v : V} {env1 env2 dvs : List DV} {dv : DV} {p1 p2 : Pen}
theorem oo_push (hl : env1.length = σ.length) (b : Addr) : b ∈ OO P ex ⟨env1 ++ [dv], p1⟩ (σ ++ [some v]) ↔ b ∈ OO P (own1 dv (some v) ++ ex) ⟨env1, p1⟩ σ := by
  unfold OO
  simp only [owns_append hl, owns, List.append_nil, List.mem_cons, List.mem_append]
  constructor
  · rintro (h | h | h | h)
    · exact .inl h
    · exact .inr (.inl (.inr h))
    · exact .inr (.inr h)
    · exact .inr (.inl (.inl h))
  · rintro (h | (h | h) | h)
    · exact .inl h
    · exact .inr (.inr (.inr h))
    · exact .inr (.inl h)
    · exact .inr (.inr (.inl h))
theorem Rel.unpush (r : Rel K P ex ⟨env1 ++ [dv], p1⟩ (σ ++ [some v]) H1) : env1.length = σ.length ∧ Rel K P (own1 dv (some v) ++ ex) ⟨env1, p1⟩ σ H1 := by
  have hl : env1.length = σ.length := by
    have := r.lens
    simp at this
    exact this
  have sub : ∀ b ∈ OO P (own1 dv (some v) ++ ex) ⟨env1, p1⟩ σ, b ∈ OO P ex ⟨env1 ++ [dv], p1⟩ (σ ++ [some v]) := fun b hb => (oo_push hl b).mpr hb
  refine ⟨hl, ⟨?_, ?_, r.pen.anti sub, fun a ha => ?_⟩⟩
  · have n := r.nd
    unfold OO at n ⊢
    rw [owns_append hl] at n
    refine (List.Perm.nodup_iff ?_).mp n
    refine List.Perm.cons _ (List.perm_iff_count.mpr fun a => ?_)
    simp only [List.count_append, owns, List.append_nil]
    omega
  · obtain ⟨q1, _⟩ := Paired.split hl r.sl
    exact Paired.own q1 fun e' r' _ h => h.kr (.anti sub) fun _ _ => rfl
  · exact r.there a (sub a (oo_mem.mpr (.inr (.inl ha))))
theorem Step.join (x : Step K P ex σ s H (σ ++ [some v]) ⟨env1 ++ [dv], p1⟩ H1) (y : Step K P (own1 dv (some v) ++ ex) σ ⟨env1, p1⟩ H1 (σ ++ τ) ⟨env2 ++ dvs, p2⟩ H2) (h2 : env2.length = σ.length) :
    Step K P ex σ s H (σ ++ some v :: τ) ⟨env2 ++ dv :: dvs, p2⟩ H2 := by
  have hl : env1.length = σ.length := (x.rel.unpush).1
  have eo : owns (env2 ++ dv :: dvs) (σ ++ some v :: τ) = owns env2 σ ++ (own1 dv (some v) ++ owns dvs τ) := owns_append h2
  have ey : owns (env2 ++ dvs) (σ ++ τ) = owns env2 σ ++ owns dvs τ := owns_append h2
  have perm : (OO P ex ⟨env2 ++ dv :: dvs, p2⟩ (σ ++ some v :: τ)).Perm (OO P (own1 dv (some v) ++ ex) ⟨env2 ++ dvs, p2⟩ (σ ++ τ)) := by
    unfold OO
    rw [eo, ey]
    refine List.Perm.cons _ (List.perm_iff_count.mpr fun a => ?_)
    simp only [List.count_append]
    omega
  have sub : ∀ b ∈ OO P ex ⟨env2 ++ dv :: dvs, p2⟩ (σ ++ some v :: τ), b ∈ OO P (own1 dv (some v) ++ ex) ⟨env2 ++ dvs, p2⟩ (σ ++ τ) := fun b hb => perm.mem_iff.mp hb
  have nd : (OO P ex ⟨env2 ++ dv :: dvs, p2⟩ (σ ++ some v :: τ)).Nodup := perm.nodup_iff.mpr y.rel.nd
  have kp : Kp (OO P ex ⟨env1 ++ [dv], p1⟩ (σ ++ [some v])) H1 H2 := ⟨fun a n o e => y.keep.1 a (fun z => n ((oo_push hl a).mpr z)) o e, y.keep.2⟩
  have kr : Kr (OO P ex ⟨env1 ++ [dv], p1⟩ (σ ++ [some v])) (OO P ex ⟨env2 ++ dv :: dvs, p2⟩ (σ ++ some v :: τ)) H1 H2 := by
    refine ⟨fun a n o e => ?_, kp.2⟩
    refine ⟨fun z => ?_, kp.1 a n o e⟩
    rcases oo_mem.mp (sub a z) with z | z | z
    · exact n (oo_mem.mpr (.inl z))
    · exact n ((oo_push hl a).mpr (oo_mem.mpr (.inr (.inl z))))
    · rcases y.own a z with z | z
      · exact n ((oo_push hl a).mpr (oo_mem.mpr (.inr (.inr z))))
      · rw [z] at e
        cases e
  obtain ⟨q1, q2⟩ := Paired.split h2 y.rel.sl
  obtain ⟨_, q4⟩ := Paired.split hl x.rel.sl
  have q5 : SlotOk K P (OO P ex ⟨env2 ++ dv :: dvs, p2⟩ (σ ++ some v :: τ)) H2 dv (some v) := by
    cases q4 with
    | cons h _ => exact h.kr kr fun b hb => y.exk b (List.mem_append_left _ hb)
  refine ⟨⟨nd, ?_, y.rel.pen.anti sub, fun a ha => y.rel.exs a (List.mem_append_right _ ha)⟩, x.keep2 kp, fun a ha => (y.exk a (List.mem_append_right _ ha)).trans (x.exk a ha), fun b hb => ?_⟩
  · exact Paired.append (Paired.own q1 fun e' r' _ h => h.kr (.anti sub) fun _ _ => rfl) (.cons q5 (Paired.own q2 fun e' r' _ h => h.kr (.anti sub) fun _ _ => rfl))
  · have fin : H1 b = none → b ∈ owns s.env σ ∨ H b = none := fun e1 => by
      by_cases hm : b ∈ owns s.env σ
      · exact .inl hm
      · refine .inr ?_
        cases e : H b with
        | none => rfl
        | some o =>
          have n : b ∉ OO P ex s σ := fun z => by
            unfold OO at nd
            rw [List.nodup_cons, List.nodup_append] at nd
            rcases oo_mem.mp z with z | z | z
            · exact nd.1 (List.mem_append_right _ (z ▸ hb))
            · exact nd.2.2.2 b z b hb rfl
            · exact hm z
          exact ((x.keep.1 b n o e).ne e1).elim
    have hb' : b ∈ owns env2 σ ++ (own1 dv (some v) ++ owns dvs τ) := by rw [← eo]; exact hb
    have up : b ∈ owns env1 σ → b ∈ owns (env1 ++ [dv]) (σ ++ [some v]) := fun z => by rw [owns_append hl]; exact List.mem_append_left _ z
    have yo : b ∈ owns env2 σ ++ owns dvs τ → b ∈ owns s.env σ ∨ H b = none := fun z => by
      rcases y.own b (by rw [ey]; exact z) with z | z
      · exact x.own b (up z)
      · exact fin z
    rcases List.mem_append.mp hb' with z | z
    · exact yo (List.mem_append_left _ z)
    · rcases List.mem_append.mp z with z | z
      · refine x.own b ?_
        show b ∈ owns (env1 ++ [dv]) (σ ++ [some v])
        rw [owns_append hl]
        exact List.mem_append_right _ (by simpa [owns] using z)
      · exact yo (List.mem_append_right _ z)
end
section
variable {X : Cx} {W : WX}
theorem dns_cons {e : Expr} {es : List Expr} {g : DSt → Out DV} {gs : DSt → Out (List DV)} (h : DN X W e g) (t : DNs X W es gs) (hs : starEach (e :: es) X.env = (false, eval e X.env) :: starEach es X.env := by rfl) : DNs X W (e :: es) (gNcons g gs) :=
  PA.imp (pa_cons h t hs) fun σ H Q ⟨P, ex, s, rel, f⟩ => by
    refine ⟨P, ex, s, rel, ?_⟩
    unfold gNcons at f
    cases q : g s with
    | ex C fs p => rw [q] at f; exact f
    | no => rw [q] at f; exact f
    | ok dv s1 =>
      rw [q] at f
      intro H1 v x
      obtain ⟨hl, rel1⟩ := x.rel.unpush
      refine ⟨P, own1 dv (some v) ++ ex, s1, rel1, ?_⟩
      have f : match (gs s1).bind fun xs s2 => Out.ok (dv :: xs) s2 with | .ok dvs s' => ∀ H' vs, vs.length = dvs.length → Step X.K P ex σ s H (σ ++ vs.map some) { s' with env := s'.env ++ dvs } H' → Q vs H' | .ex C fs p => ∀ H' od, XStep X.K P ex σ s H H' fs p od → W (.ref C) od σ H' | .no => False := f
      cases q2 : gs s1 with
      | no => rw [q2] at f; exact f
      | ex C fs p =>
        rw [q2] at f
        intro H' od y
        refine f H' od ⟨x.keep2 ⟨fun a n o e => y.keep.1 a (fun z => n ((oo_push hl a).mpr z)) o e, y.keep.2⟩, fun a ha => (y.exk a (List.mem_append_right _ ha)).trans (x.exk a ha), y.pen.anti fun a ha => ?_, ?_⟩
        · rcases List.mem_cons.mp ha with h | h
          · exact List.mem_cons.mpr (.inl h)
          · exact List.mem_cons.mpr (.inr (List.mem_append_right _ h))
        · rcases y.err with z | ⟨d, vfs, z1, z2, z3, z4⟩
          · exact .inl z
          · exact .inr ⟨d, vfs, z1, z2, z3, z4.anti fun a ha => by
              rcases List.mem_cons.mp ha with h | h
              · exact List.mem_cons.mpr (.inl h)
              · exact List.mem_cons.mpr (.inr (List.mem_append_right _ h))⟩
      | ok dvs s2 =>
        rw [q2] at f
        intro H2 vs l0 y
        refine f H2 (v :: vs) (by simp [l0]) (Step.join x y ?_)
        have l1 := y.rel.lens
        simp at l1
        omega
def gSetN (i : Nat) (g : DSt → Out DV) : DSt → OutS := fun s => (g s).bindS fun d s1 => .nx { s1 with env := s1.env.set i d }
def gPar (i j : Nat) (g : DSt → Out (List DV)) : DSt → OutS := fun s => (g s).bindS fun ds s1 => match ds with
  | [a, b] => .nx { s1 with env := (s1.env.set i a).set j b }
  | _ => .no
def gPar3 (i j l : Nat) (g : DSt → Out (List DV)) : DSt → OutS := fun s => (g s).bindS fun ds s1 => match ds with
  | [a, b, c] => .nx { s1 with env := ((s1.env.set i a).set j b).set l c }
  | _ => .no
theorem ds_setN {i : Nat} {x : Str} {e : Expr} {pos pos' : Pos} {g : DSt → Out DV} (hN : X.N.Nodup) (hi : X.N[i]? = some x) (hx : Loc X.env.scope x) (he : DN X W e g) (hs : swapsWith e (some (.Name x pos')) pos.line X.env = pure false := by rfl) (hf : X.fn x = true ∨ X.env.scope.names.lookup x = some .local := by first | exact .inl rfl | exact .inr rfl | assumption) :
    DS X W (.Assign [.Name x pos'] e pos) (gSetN i g) := PS.imp (ps_set hN hi hx he hs hf) fun D σ H ⟨P, ex, s, rel, f⟩ => by
  unfold gSetN at f
  refine ⟨P, ex, s, rel, ?_⟩
  cases q : g s with
  | ok dv s1 =>
    rw [q] at f
    intro H1 v st
    have l := (st.rel.unpush).1
    have z := st.store (dvs := []) (rs := []) l i
    rw [List.append_nil, List.append_nil] at z
    exact f _ _ z
  | ex C fs p => rw [q] at f; exact fun H' od x => f σ H' od x
  | no => rw [q] at f; exact f
theorem ds_par {i j : Nat} {x y : Str} {a b : Expr} {px py pt pos : Pos} {kt k2 pt2} {g : DSt → Out (List DV)} (hc : X.calm = true) (hN : X.N.Nodup) (hi : X.N[i]? = some x) (hj : X.N[j]? = some y) (hij : i ≠ j)
    (hx : X.env.scope.names.lookup x = some .local) (hy : X.env.scope.names.lookup y = some .local) (ha : DNs X W [a, b] g)
    (hw : swappedStores [.Tuple [.Name x px, .Name y py] kt pt] (.Tuple [a, b] k2 pt2) X.env = pure (some [x, y]))
    (hs : swapsWithSole [.Tuple [.Name x px, .Name y py] kt pt] (.Tuple [a, b] k2 pt2) pos.line X.env = pure false := by rfl) :
    DS X W (.Assign [.Tuple [.Name x px, .Name y py] kt pt] (.Tuple [a, b] k2 pt2) pos) (gPar i j g) := PS.imp (ps_par hc hN hi hj hij hx hy ha hw hs) fun D σ H ⟨P, ex, s, rel, f⟩ => by
  unfold gPar at f
  refine ⟨P, ex, s, rel, ?_⟩
  cases q : g s with
  | ok dvs s1 =>
    rw [q] at f
    intro H1 vs l0 st
    match dvs, vs, l0, f with
    | [d1, d2], [v1, v2], l0, f =>
      have l : s1.env.length = σ.length := by
        have := st.rel.lens
        simp at this
        omega
      have z := st.store (dvs := [d2]) (rs := [some v2]) l i
      have z2 := z.store (dvs := []) (rs := []) (by simp [l]) j
      rw [List.append_nil, List.append_nil] at z2
      exact ⟨v1, v2, rfl, f _ _ z2⟩
  | ex C fs p => rw [q] at f; exact fun H' od x => f σ H' od x
  | no => rw [q] at f; exact f
end
end BD
namespace BD
open PySem PySem.Spec PyProof.Rows L2
def IterOk (K : PySem.W.Frag) (P : Addr) (O : List Addr) (H : Hp) (J : It) (items : List Dat) : Prop := ∃ (G : Hp → Prop) (Y : Nat → Hp → V → Hp → Prop), Walk J items.length G Y ∧ (∀ O' H', Kr O O' H H' → G H') ∧
  ∀ i O' H' x H'', i < items.length → Kr O O' H H' → Y i H' x H'' → ∃ d, items[i]? = some d ∧ ((H'' = H' ∧ Rp K P O' H' x d) ∨ ∃ T o, H' T = none ∧ H'' = upd H' T o ∧ (T ∉ O' → Rp K P O' H'' x d))
def tI (K : PySem.W.Frag) (W : WX) (g : DSt → Out (List Dat)) : TI := fun σ H R => ∃ P ex s, Rel K P ex s σ H ∧ (match g s with
  | .ok items s1 => ∀ J H1, Step K P ex σ s H σ s1 H1 → IterOk K P (OO P ex s1 σ) H1 J items → R J H1
  | .ex C fs p => ∀ H' od, XStep K P ex σ s H H' fs p od → W (.ref C) od σ H'
  | .no => False)
abbrev DIt (X : Cx) (W : WX) (tg iter : Expr) (g : DSt → Out (List Dat)) : Prop := PI X tg iter (tI X.K W g)
theorem PI.imp {X : Cx} {tg e : Expr} {t u : TI} (h : PI X tg e t) (i : ∀ σ H R, u σ H R → t σ H R) : PI X tg e u := ⟨fun pins s σ H R I q => h.run pins s σ H R I (i σ H R q)⟩
section
variable {X : Cx} {W : WX}
theorem tG_seqI {K : PySem.W.Frag} {P : Addr} {ex : List Addr} {s : DSt} {σ : St} {H : Hp} {α β : Type} {R : RR α β} {g : DSt → Out α} {k : α → DSt → Out (List Dat)} {Q1 : β → Hp → Prop} {Q : It → Hp → Prop} (rel : Rel K P ex s σ H)
    (f : match (g s).bind k with | .ok items s' => ∀ J H', Step K P ex σ s H σ s' H' → IterOk K P (OO P ex s' σ) H' J items → Q J H' | .ex C fs p => ∀ H' od, XStep K P ex σ s H H' fs p od → W (.ref C) od σ H' | .no => False)
    (h : ∀ a s1 H1 b, Step K P ex σ s H σ s1 H1 → R P (OO P ex s1 σ) σ H1 b a → (match k a s1 with | .ok items s' => ∀ J H', Step K P ex σ s1 H1 σ s' H' → IterOk K P (OO P ex s' σ) H' J items → Q J H' | .ex C fs p => ∀ H' od, XStep K P ex σ s1 H1 H' fs p od → W (.ref C) od σ H' | .no => False) → Q1 b H1) : tG K R W g σ H Q1 := by
  refine ⟨P, ex, s, rel, ?_⟩
  cases e : g s with
  | ok a s1 =>
    rw [e] at f
    intro H1 b st r
    refine h a s1 H1 b st r ?_
    have f : match k a s1 with | .ok items s' => ∀ J H', Step K P ex σ s H σ s' H' → IterOk K P (OO P ex s' σ) H' J items → Q J H' | .ex C fs p => ∀ H' od, XStep K P ex σ s H H' fs p od → W (.ref C) od σ H' | .no => False := f
    cases q : k a s1 with
    | ok dv s2 =>
      rw [q] at f
      exact fun J H' x => f J H' (st.trans x)
    | ex C fs p =>
      rw [q] at f
      exact fun H' od x => f H' od (x.back st)
    | no =>
      rw [q] at f
      exact f
  | ex C fs p =>
    rw [e] at f
    exact f
  | no =>
    rw [e] at f
    exact f
def gIl (g : DSt → Out Dat) : DSt → Out (List Dat) := fun s => (g s).bind fun d s1 => match d with
  | .lst xs => .ok xs s1
  | _ => .no
def signs (z : Str) : List Dat := z.cps.toList.map fun c => .str ⟨#[c]⟩
def gIs (g : DSt → Out Dat) : DSt → Out (List Dat) := fun s => (g s).bind fun d s1 => match d with
  | .str z => .ok (signs z) s1
  | _ => .no
def kD : Key → Dat
  | .inl i => .int i
  | .inr x => .str x
def gIk (g : DSt → Out Dat) : DSt → Out (List Dat) := fun s => (g s).bind fun d s1 => match dicOf d with
  | some ks => .ok (ks.map fun p => kD p.1) s1
  | none => .no
def rangeD (n : Int) : List Dat := (List.range n.toNat).map fun (i : Nat) => .int (i : Int)
def gIr (g : DSt → Out (List Dat)) : DSt → Out (List Dat) := fun s => (g s).bind fun ds s1 => match ds with
  | [.int n] => if -1000000 ≤ n ∧ n ≤ 1000000 then .ok (rangeD n) s1 else .no
  | _ => .no
theorem lsO_kr {O O' : List Addr} {H H' : Hp} {a : Addr} {xs : List V} (h : LsO O H a xs) (k : Kr O O' H H') : LsO O' H' a xs := ⟨(k.1 a h.1 _ h.2).1, (k.1 a h.1 _ h.2).2.nt⟩
theorem tpO_kr {K : PySem.W.Frag} {O O' : List Addr} {H H' : Hp} {a : Addr} {xs : List V} (h : TpO K O H a xs) (k : Kr O O' H H') : TpO K O' H' a xs := h.elim (fun x => .inl (k.rd x.1 x.2)) .inr
theorem di_list {tg e : Expr} {g : DSt → Out Dat} (h : DE X W e g) : DIt X W tg e (gIl g) := PI.imp (pi_list h) fun σ H R ⟨P, ex, s, rel, f⟩ => by
  unfold gIl at f
  refine tG_seqI rel f fun d s1 H1 v st r f1 => ?_
  have r : Rp X.K P (OO P ex s1 σ) H1 v d := r
  cases r with
  | @lst a vs xs hs rs =>
    refine ⟨a, rfl, ⟨vs, hs.sq⟩, f1 _ _ (.refl st.rel) ⟨_, _, rs.length ▸ walk_list (xs := vs), fun O' H' k => (lsO_kr hs k).sq, fun i O' H' x H'' hi k y => ?_⟩⟩
    obtain ⟨d, e1, r1⟩ := rs.getV y.2
    exact ⟨d, e1, .inl ⟨y.1, r1.kr k⟩⟩
  | _ => exact f1.elim
theorem di_str {tg e : Expr} {g : DSt → Out Dat} (h : DE X W e g) : DIt X W tg e (gIs g) := PI.imp (pi_str h) fun σ H R ⟨P, ex, s, rel, f⟩ => by
  unfold gIs at f
  refine tG_seqI rel f fun d s1 H1 v st r f1 => ?_
  have r : Rp X.K P (OO P ex s1 σ) H1 v d := r
  cases r with
  | str z =>
    have hl : (signs z).length = z.cps.size := by simp [signs]
    refine ⟨z, rfl, f1 _ _ (.refl st.rel) ⟨_, _, hl ▸ walk_str (z := z), fun _ _ _ => trivial, fun i O' H' x H'' hi k y => ?_⟩⟩
    obtain ⟨e0, c, e1, rfl⟩ := y
    exact ⟨.str ⟨#[c]⟩, by simp [signs, e1], .inl ⟨e0, .str _⟩⟩
  | _ => exact f1.elim
theorem rp_key {K : PySem.W.Frag} {P : Addr} {O : List Addr} {H : Hp} (k : Key) : Rp K P O H (kV k) (kD k) := by
  cases k with
  | inl i => exact .int i
  | inr x => exact .str x
theorem keys_get {kvs : List (Key × V)} {ks : List (Key × Dat)} (e : kvs.map (·.1) = ks.map (·.1)) {i : Nat} {k : Key} {v : V} (h : kvs[i]? = some (k, v)) : ∃ d, ks[i]? = some (k, d) := by
  have h1 : (kvs.map (·.1))[i]? = some k := by simp [h]
  rw [e, List.getElem?_map] at h1
  cases q : ks[i]? with
  | none => rw [q] at h1; cases h1
  | some p =>
    rw [q] at h1
    have : p.1 = k := Option.some.inj h1
    exact ⟨p.2, by rw [← this]⟩
theorem di_keys {tg e : Expr} {g : DSt → Out Dat} (h : DE X W e g) : DIt X W tg e (gIk g) := PI.imp (pi_keys h) fun σ H R ⟨P, ex, s, rel, f⟩ => by
  unfold gIk at f
  refine tG_seqI rel f fun d s1 H1 v st r f1 => ?_
  have r : Rp X.K P (OO P ex s1 σ) H1 v d := r
  cases qd : dicOf d with
  | some ks =>
    rw [qd] at f1
    obtain ⟨a, kvs, o, rfl, hs, he, rs, hz⟩ := rp_dic r qd
    have hl : (ks.map fun p => kD p.1).length = kvs.length := by
      have := congrArg List.length he
      simpa using this.symm
    refine ⟨a, o, rfl, .inl ⟨kvs, hs, f1 _ _ (.refl st.rel) ⟨_, _, hl ▸ walk_keys (kvs := kvs), fun O' H' k => hz O' H' k, fun i O' H' x H'' hi k y => ?_⟩⟩⟩
    obtain ⟨e0, key, v, e1, rfl⟩ := y
    obtain ⟨d, e2⟩ := keys_get he e1
    exact ⟨kD key, by simp [e2], .inl ⟨e0, rp_key key⟩⟩
  | none => rw [qd] at f1; exact f1.elim
theorem di_range {tg a : Expr} {p pos : Pos} {g : DSt → Out (List Dat)} (hg : Gl X "range") (hm : X.mg "range" = none) (ha : DA X W [a] g) (hs : starEach [a] X.env = [(false, eval a X.env)] := by rfl) : DIt X W tg (.Call (.Name "range" p) [a] [] pos) (gIr g) :=
  PI.imp (pi_range1 hg hm ha hs) fun σ H R ⟨P, ex, s, rel, f⟩ => by
  unfold gIr at f
  refine tG_seqI rel f fun ds s1 H1 vs st r f1 => ?_
  have r : Rps X.K P (OO P ex s1 σ) H1 vs ds := r
  match ds, r, f1 with
  | [.int n], .cons h1 .nil, f1 =>
    cases h1
    by_cases hb : -1000000 ≤ n ∧ n ≤ 1000000
    · simp only [if_pos hb] at f1
      have hl : (rangeD n).length = n.toNat := by simp [rangeD]
      refine ⟨n, rfl, by omega, by omega, f1 _ _ (.refl st.rel) ⟨fun _ => True, YFn fun i => .int (0 + (i : Int)), (by rw [hl]; exact walk_range), fun _ _ _ => trivial, fun i O' H' x H'' hi k y => ?_⟩⟩
      obtain ⟨e0, rfl⟩ := y
      refine ⟨.int (i : Int), ?_, .inl ⟨e0, ?_⟩⟩
      · rw [hl] at hi
        simp [rangeD, hi]
      · show Rp X.K P O' H' (V.int (0 + (i : Int))) (Dat.int (i : Int))
        rw [Int.zero_add]
        exact .int _
    · simp only [if_neg hb] at f1
end
end BD
namespace BD
open PySem PySem.Spec PyProof.Rows L2
/-- a target, told of data -/
def DTg (X : Cx) (tg : Expr) (t : TG) (h : Dat → DSt → Option DSt) : Prop := PG X tg t ∧ ∀ P ex s σ H v d (Q : St → Hp → Prop), Rel X.K P ex s σ H → Rp X.K P (OO P ex s σ) H v d →
  (match h d s with | some s' => ∀ σ' H', Step X.K P ex σ s H σ' s' H' → Q σ' H' | none => False) → t v σ H Q
def hName (i : Nat) : Dat → DSt → Option DSt := fun d s => some { s with env := s.env.set i (.d d) }
def gLoop (h : Dat → DSt → Option DSt) (b : DSt → OutS) : List Dat → DSt → OutS
  | [], s => .nx s
  | d :: ds, s => match h d s with
    | none => .no
    | some s1 => match b s1 with
      | .nx s2 => gLoop h b ds s2
      | .ct s2 => gLoop h b ds s2
      | .bk s2 => .nx s2
      | .rt d p => .rt d p
      | .ex C fs p => .ex C fs p
      | .no => .no
def gFor (gi : DSt → Out (List Dat)) (h : Dat → DSt → Option DSt) (b : DSt → OutS) : DSt → OutS := fun s => (gi s).bindS fun items s1 => gLoop h b items s1
section
variable {X : Cx} {W : WX}
theorem dtg_name {i : Nat} {x : Str} {pos : Pos} (hN : X.N.Nodup) (hi : X.N[i]? = some x) (hx : Loc X.env.scope x) (hf : X.fn x = true ∨ X.env.scope.names.lookup x = some .local := by first | exact .inl rfl | exact .inr rfl | assumption) : DTg X (.Name x pos) (gName i) (hName i) :=
  ⟨pg_name hN hi hx hf, fun P ex s σ H v d Q rel r f => f _ _ (.set rel r)⟩
theorem iter_step {K : PySem.W.Frag} {P : Addr} {ex : List Addr} {s : DSt} {σ : St} {H H'' : Hp} {x : V} {d : Dat} (rel : Rel K P ex s σ H) (h : (H'' = H ∧ Rp K P (OO P ex s σ) H x d) ∨ ∃ T o, H T = none ∧ H'' = upd H T o ∧ (T ∉ OO P ex s σ → Rp K P (OO P ex s σ) H'' x d)) :
    Step K P ex σ s H σ s H'' ∧ Rp K P (OO P ex s σ) H'' x d := by
  rcases h with ⟨rfl, r⟩ | ⟨T, o, hT, rfl, r⟩
  · exact ⟨.refl rel, r⟩
  · exact ⟨.new rel hT, r (rel.fresh hT)⟩
theorem ds_for {tg iter : Expr} {body : List Stmt} {pos : Pos} {t : TG} {gi : DSt → Out (List Dat)} {h : Dat → DSt → Option DSt} {b : DSt → OutS} (hp : PassesOwn (model X.prog X.w) X.A X.env X.xe) (hc : X.calm = true) (hi : DIt X W tg iter gi) (hg : DTg X tg t h) (hb : DSs X W body b) (hs : ∀ x, foldedSetIterable iter X.env x = pure x := by intro _; rfl) :
    DS X W (.For tg iter body [] pos) (gFor gi h b) := PS.imp (ps_for hp hc hi hg.1 hb hs) fun D σ H ⟨P, ex, s, rel, f⟩ => by
  unfold gFor at f
  refine ⟨P, ex, s, rel, ?_⟩
  cases q : gi s with
  | no => rw [q] at f; exact f
  | ex C fs p => rw [q] at f; exact fun H' od x => f σ H' od x
  | ok items s1 =>
    rw [q] at f
    intro J H1 st io
    have f : FinS X.K P ex W σ s1 H1 D (gLoop h b items s1) := FinS.go f st
    obtain ⟨G, Y, walk, hG, hY⟩ := io
    refine for_it walk (fun i σ' H' => ∃ s', Step X.K P ex σ s1 H1 σ' s' H' ∧ FinS X.K P ex W σ' s' H' D (gLoop h b (items.drop i) s')) ⟨s1, .refl st.rel, f⟩ (fun i σ' H' hi ⟨s', x, _⟩ => hG _ _ x.kr) (fun i x σ' H' H'' hi ⟨s', x1, f1⟩ y => ?_) (fun σ' H' ⟨s', x1, f1⟩ => ?_)
    · obtain ⟨d, e1, io⟩ := hY i _ H' x H'' hi x1.kr y
      obtain ⟨x2, r2⟩ := iter_step x1.rel io
      rw [List.drop_eq_getElem_cons hi, show items[i] = d from by
        have := List.getElem?_eq_getElem hi
        rw [e1] at this
        exact (Option.some.inj this).symm] at f1
      refine hg.2 P ex s' σ' H'' x d _ x2.rel r2 ?_
      unfold gLoop at f1
      cases q1 : h d s' with
      | none => rw [q1] at f1; exact f1
      | some s2 =>
        rw [q1] at f1
        dsimp only at f1
        intro σ2 H2 x3
        refine ⟨P, ex, s2, x3.rel, ?_⟩
        have x4 := x2.trans x3
        cases q2 : b s2 with
        | nx s3 =>
          rw [q2] at f1
          exact fun σ3 H3 x5 => ⟨s3, x1.trans (x4.trans x5), FinS.go f1 (x4.trans x5)⟩
        | ct s3 =>
          rw [q2] at f1
          exact fun σ3 H3 x5 => ⟨s3, x1.trans (x4.trans x5), FinS.go f1 (x4.trans x5)⟩
        | bk s3 =>
          rw [q2] at f1
          exact fun σ3 H3 x5 => f1 σ3 H3 (x4.trans x5)
        | rt d p =>
          rw [q2] at f1
          exact fun v H3 x5 => f1 v H3 (x5.back x4)
        | ex C fs p =>
          rw [q2] at f1
          exact fun σ3 H3 od x5 => f1 σ3 H3 od (x5.back x4)
        | no =>
          rw [q2] at f1
          exact f1
    · rw [List.drop_length] at f1
      exact f1 σ' H' (.refl x1.rel)
end
end BD
namespace BD
open PySem PySem.Spec PyProof.Rows L2
def wipeE (vs : List Nat) (env : List DV) : List DV := env.mapIdx fun i e => if vs.contains i then .no else e
def backE (vs : List Nat) (env0 env : List DV) : List DV := env.mapIdx fun i e => if vs.contains i then env0.getD i .no else e
def plainAt (vs : List Nat) (env : List DV) : Bool := vs.all fun i => !(env.getD i .no).isO
theorem Paired.all_get {α β : Type} {F : α → β → Prop} : ∀ {l : List α} {m : List β}, l.length = m.length → (∀ (i : Nat) (a : α) (b : β), l[i]? = some a → m[i]? = some b → F a b) → Paired F l m
  | [], [], _, _ => .nil
  | a :: l, b :: m, h, f => .cons (f 0 a b rfl rfl) (Paired.all_get (by simpa using h) fun i a b ha hb => f (i + 1) a b (by simpa using ha) (by simpa using hb))
theorem Paired.get2 {α β : Type} {F : α → β → Prop} {l : List α} {m : List β} {i : Nat} {a : α} {b : β} (p : Paired F l m) (ha : l[i]? = some a) (hb : m[i]? = some b) : F a b := by
  obtain ⟨b', e, h⟩ := Paired.getL p ha
  rw [hb] at e
  cases e
  exact h
theorem owns_congr : ∀ {es es' : List DV} {σ σ' : St}, es.length = es'.length → σ.length = σ'.length → es.length = σ.length → (∀ (i : Nat) (e e' : DV) (r r' : Option V), es[i]? = some e → es'[i]? = some e' → σ[i]? = some r → σ'[i]? = some r' → own1 e r = own1 e' r') → owns es σ = owns es' σ'
  | [], [], [], [], _, _, _, _ => rfl
  | e :: es, e' :: es', r :: σ, r' :: σ', h1, h2, h3, f => by
    rw [owns, owns, f 0 e e' r r' rfl rfl rfl rfl, owns_congr (by simpa using h1) (by simpa using h2) (by simpa using h3) fun i a b c d ha hb hc hd => f (i + 1) a b c d (by simpa using ha) (by simpa using hb) (by simpa using hc) (by simpa using hd)]
theorem wipe_get {σ : St} {i : Nat} {r : Option V} : ∀ {vs : List Nat}, (wipe σ vs)[i]? = some r → (i ∈ vs ∧ r = none) ∨ (i ∉ vs ∧ σ[i]? = some r)
  | [], h => .inr ⟨by simp, h⟩
  | v :: vs, h => by
    unfold wipe at h
    by_cases e : v = i
    · subst e
      rw [List.getElem?_set] at h
      simp at h
      exact .inl ⟨by simp, h.2.symm⟩
    · rw [List.getElem?_set_ne e] at h
      rcases wipe_get h with ⟨a, b⟩ | ⟨a, b⟩
      · exact .inl ⟨by simp [a], b⟩
      · exact .inr ⟨by simp [a, Ne.symm e], b⟩
theorem isO_none (e : DV) : own1 e none = [] := by
  unfold own1
  split <;> simp_all
theorem own1_plain {e : DV} (h : e.isO = false) (r : Option V) : own1 e r = [] := by
  unfold own1
  rw [h]
theorem plainAt_get {vs : List Nat} {env : List DV} {i : Nat} {e : DV} (h : plainAt vs env = true) (hi : i ∈ vs) (he : env[i]? = some e) : e.isO = false := by
  have := List.all_eq_true.mp h i hi
  simpa [he] using this
section
variable {K : PySem.W.Frag} {P D : Addr} {ex : List Addr} {s s1 : DSt} {σ : St} {H H1 : Hp} {vs : List Nat} {o : HO}
theorem wipe_owns (hl : s.env.length = σ.length) (hp : plainAt vs s.env = true) : owns (wipeE vs s.env) (wipe σ vs) = owns s.env σ := by
  refine owns_congr (by simp [wipeE]) (wipe_length _ _) (by simp [wipeE, wipe_length, hl]) fun i e e' r r' h1 h2 h3 h4 => ?_
  simp only [wipeE, List.getElem?_mapIdx, h2, Option.map_some] at h1
  rcases wipe_get h3 with ⟨a, b⟩ | ⟨a, b⟩
  · rw [b, isO_none, own1_plain (plainAt_get hp a h2)]
  · rw [h4] at b
    cases b
    have : e = e' := by
      have := Option.some.inj h1
      rw [if_neg (by simpa using a)] at this
      exact this.symm
    rw [this]
theorem Rel.wipe (r : Rel K P ex s σ H) (hp : plainAt vs s.env = true) : Rel K P ex { s with env := wipeE vs s.env } (wipe σ vs) H := by
  have e := wipe_owns r.lens hp
  have eo : OO P ex { s with env := wipeE vs s.env } (L2.wipe σ vs) = OO P ex s σ := by
    show P :: (ex ++ owns (wipeE vs s.env) (L2.wipe σ vs)) = _
    rw [e]
    rfl
  refine ⟨by rw [eo]; exact r.nd, ?_, by rw [eo]; exact r.pen, r.exs⟩
  rw [eo]
  refine Paired.all_get (by simp [wipeE, wipe_length, r.lens]) fun i a b ha hb => ?_
  simp only [wipeE, List.getElem?_mapIdx] at ha
  cases q : s.env[i]? with
  | none => rw [q] at ha; cases ha
  | some e0 =>
    rw [q] at ha
    have ha : (if vs.contains i = true then DV.no else e0) = a := Option.some.inj ha
    rcases wipe_get hb with ⟨c, d⟩ | ⟨c, d⟩
    · rw [if_pos (by simpa using c)] at ha
      rw [← ha]
      trivial
    · rw [if_neg (by simpa using c)] at ha
      rw [← ha]
      exact Paired.get2 r.sl q d
theorem Rel.exNew (r : Rel K P ex s σ H) (n : H D = none) : Rel K P (D :: ex) s σ (upd H D o) := by
  have f := r.fresh n
  have kr : Kr (OO P ex s σ) (OO P (D :: ex) s σ) H (upd H D o) := by
    refine ⟨fun b nb u eb => ?_, .new n⟩
    have ne := ne_of_none eb n
    refine ⟨fun z => ?_, by rw [upd_ne ne]; exact .inl eb⟩
    rcases oo_mem.mp z with z | z | z
    · exact nb (oo_mem.mpr (.inl z))
    · rcases List.mem_cons.mp z with z | z
      · exact ne z
      · exact nb (oo_mem.mpr (.inr (.inl z)))
    · exact nb (oo_mem.mpr (.inr (.inr z)))
  have q : ∀ b ∈ OO P ex s σ, upd H D o b = H b := fun b hb => upd_ne fun z => f (z ▸ hb)
  refine ⟨?_, Paired.own r.sl fun e' r' hb h' => h'.kr kr fun b hb' => q b (oo_mem.mpr (.inr (.inr (hb b hb')))), ?_, fun b hb => ?_⟩
  · have n1 := r.nd
    unfold OO at n1 f ⊢
    rw [List.nodup_cons] at n1 ⊢
    simp only [List.cons_append, List.mem_cons, not_or, List.nodup_cons] at f ⊢
    exact ⟨⟨fun z => f.1 z.symm, n1.1⟩, f.2, n1.2⟩
  · obtain ⟨c, h1, h2, h3⟩ := r.pen.at_
    exact ⟨⟨c, (q P (oo_mem.mpr (.inl rfl))).trans h1, (kr.1 c h2 _ h3).1, (kr.1 c h2 _ h3).2.nt⟩, r.pen.lo, r.pen.hi, r.pen.gg, r.pen.tab.still kr.2 (.upd (.none n)), r.pen.n⟩
  · rcases List.mem_cons.mp hb with rfl | hb
    · exact ⟨o, upd_same⟩
    · obtain ⟨u, eu⟩ := r.exs b hb
      exact ⟨u, (q b (oo_mem.mpr (.inr (.inl hb)))).trans eu⟩
theorem Rel.exUpd (r : Rel K P (D :: ex) s σ H) (hf : Loose (H D)) : Rel K P (D :: ex) s σ (upd H D o) := by
  obtain ⟨c1, c2, c3, c4, c5⟩ := r.sep
  have kp : Kp (OO P (D :: ex) s σ) H (upd H D o) := .updO (oo_mem.mpr (.inr (.inl (List.mem_cons_self ..)))) hf
  have nD : ∀ b ∈ owns s.env σ, b ≠ D := fun b hb z => c3 D (List.mem_cons_self ..) (z ▸ hb)
  refine ⟨r.nd, Paired.own r.sl fun e' r' hb h' => h'.mono kp fun b hb' => upd_ne (nD b (hb b hb')), r.pen.mono kp (upd_ne fun z => c1 (by rw [z]; exact List.mem_cons_self ..)) (.upd hf), fun b hb => ?_⟩
  by_cases h : b = D
  · exact ⟨o, by rw [h]; exact upd_same⟩
  · obtain ⟨u, eu⟩ := r.exs b hb
    exact ⟨u, (upd_ne h).trans eu⟩
theorem Rel.release (r : Rel K P (D :: ex) s σ H) : Rel K P ex s σ H := by
  have sub : ∀ b ∈ OO P ex s σ, b ∈ OO P (D :: ex) s σ := fun b hb => oo_mem.mpr ((oo_mem.mp hb).imp id fun q => q.imp (List.mem_cons_of_mem _) id)
  refine ⟨?_, Paired.own r.sl fun e' r' _ h => h.kr (.anti sub) fun _ _ => rfl, r.pen.anti sub, fun a ha => r.exs a (List.mem_cons_of_mem _ ha)⟩
  have n := r.nd
  unfold OO at n ⊢
  simp only [List.cons_append, List.nodup_cons, List.mem_cons, not_or] at n ⊢
  exact ⟨n.1.2, n.2.2⟩
/-- out of the block: what the own names held ahead of it, they hold again -/
theorem Rel.back (r0 : Rel K P ex s1 σ H1) (hp : plainAt vs s1.env = true) (r : Rel K P (D :: ex) s (L2.wipe σ vs) H) (kr : Kr (OO P ex s1 σ) (OO P (D :: ex) s (L2.wipe σ vs)) H1 H) :
    Rel K P (D :: ex) { s with env := backE vs s1.env s.env } σ H ∧ owns (backE vs s1.env s.env) σ = owns s.env (L2.wipe σ vs) := by
  have hl : s.env.length = σ.length := by rw [r.lens, wipe_length]
  have e : owns (backE vs s1.env s.env) σ = owns s.env (L2.wipe σ vs) := by
    refine owns_congr (by simp [backE]) (wipe_length _ _).symm (by simp [backE, hl]) fun i e e' r' r'' h1 h2 h3 h4 => ?_
    simp only [backE, List.getElem?_mapIdx, h2, Option.map_some] at h1
    have h1 := Option.some.inj h1
    rcases wipe_get h4 with ⟨a, b⟩ | ⟨a, b⟩
    · rw [if_pos (by simpa using a)] at h1
      rw [b, isO_none, ← h1]
      have := List.all_eq_true.mp hp i a
      exact own1_plain (by simpa using this) _
    · rw [if_neg (by simpa using a)] at h1
      rw [h3] at b
      cases b
      rw [h1]
  have eo : OO P (D :: ex) { s with env := backE vs s1.env s.env } σ = OO P (D :: ex) s (L2.wipe σ vs) := by
    show P :: ((D :: ex) ++ owns (backE vs s1.env s.env) σ) = _
    rw [e]
    rfl
  refine ⟨⟨by rw [eo]; exact r.nd, ?_, by rw [eo]; exact r.pen, r.exs⟩, e⟩
  · rw [eo]
    refine Paired.all_get (by simp [backE, hl]) fun i a b ha hb => ?_
    simp only [backE, List.getElem?_mapIdx] at ha
    cases q : s.env[i]? with
    | none => rw [q] at ha; cases ha
    | some e0 =>
      rw [q] at ha
      have ha : (if vs.contains i = true then s1.env.getD i DV.no else e0) = a := Option.some.inj ha
      by_cases c : i ∈ vs
      · rw [if_pos (by simpa using c)] at ha
        have i1 : i < s1.env.length := by
          rw [r0.lens]
          exact (List.getElem?_eq_some_iff.mp hb).1
        have e1 : s1.env[i]? = some a := by
          rw [← ha]
          simp [i1]
        have k := Paired.get2 r0.sl e1 hb
        exact k.kr kr fun x hx => by
          rw [own1_plain (plainAt_get hp c e1)] at hx
          cases hx
      · rw [if_neg (by simpa using c)] at ha
        have hw : (L2.wipe σ vs)[i]? = some b := by
          cases w : (L2.wipe σ vs)[i]? with
          | none =>
            have := List.getElem?_eq_none_iff.mp w
            rw [wipe_length] at this
            have := (List.getElem?_eq_some_iff.mp hb).1
            omega
          | some r' =>
            rcases wipe_get w with ⟨x, _⟩ | ⟨_, x⟩
            · exact (c x).elim
            · rw [hb] at x
              rw [x]
        rw [← ha]
        exact Paired.get2 r.sl q hw
end
end BD
namespace BD
open PySem PySem.Spec PyProof.Rows L2
def gLcL (vs : List Nat) (h : Dat → DSt → Option DSt) (t : DSt → Out Bool) (e : DSt → Out Dat) : List Dat → List Dat → DSt → Out (List Dat)
  | [], acc, s => .ok acc s
  | d :: ds, acc, s => match h d s with
    | none => .no
    | some s1 => match t s1 with
      | .ok true s2 => match e s2 with
        | .ok y s3 => if acc.length < sizeLine ∧ plainAt vs s3.env = true then gLcL vs h t e ds (acc ++ [y]) { s3 with env := wipeE vs s3.env } else .no
        | _ => .no
      | .ok false s2 => if plainAt vs s2.env = true then gLcL vs h t e ds acc { s2 with env := wipeE vs s2.env } else .no
      | _ => .no
/-- the items, the state behind -/
def gLcA (vs : List Nat) (gi : DSt → Out (List Dat)) (h : Dat → DSt → Option DSt) (t : DSt → Out Bool) (e : DSt → Out Dat) : DSt → Out (List Dat) := fun s => (gi s).bind fun items s1 => if plainAt vs s1.env = true then
    match gLcL vs h t e items [] { s1 with env := wipeE vs s1.env } with
    | .ok acc s2 => .ok acc { s2 with env := backE vs s1.env s2.env }
    | _ => .no
  else .no
def gLc (vs : List Nat) (gi : DSt → Out (List Dat)) (h : Dat → DSt → Option DSt) (t : DSt → Out Bool) (e : DSt → Out Dat) : DSt → Out Dat := fun s => (gLcA vs gi h t e s).bind fun acc s1 => .ok (.lst acc) s1
theorem wipe_none {σ : St} : ∀ {vs : List Nat} {i : Nat}, i ∈ vs → i < σ.length → (wipe σ vs)[i]? = some none := fun {vs i} hi hl => by
  cases q : (wipe σ vs)[i]? with
  | none =>
    have := List.getElem?_eq_none_iff.mp q
    rw [wipe_length] at this
    omega
  | some r =>
    rcases wipe_get q with ⟨_, b⟩ | ⟨a, _⟩
    · rw [b]
    · exact (a hi).elim
theorem wipe_wipe (σ : St) (vs : List Nat) : wipe (wipe σ vs) vs = wipe σ vs := by
  have gen : ∀ us : List Nat, (∀ i ∈ us, i ∈ vs) → wipe (wipe σ vs) us = wipe σ vs := fun us => by
    induction us with
    | nil => intro _; rfl
    | cons u us ih =>
      intro h
      rw [wipe, ih fun i hi => h i (List.mem_cons_of_mem _ hi)]
      by_cases hl : u < σ.length
      · exact set_same (wipe_none (h u (List.mem_cons_self ..)) hl)
      · exact List.set_eq_of_length_le (by rw [wipe_length]; omega)
  exact gen vs fun _ h => h
section
variable {K : PySem.W.Frag} {P D : Addr} {ex : List Addr} {s s' s1 s4 : DSt} {σ σ2 : St} {H H' H1 H4 : Hp} {vs : List Nat} {o : HO}
/-- within a comprehension's block: s1, H1 ahead of it -/
structure Mid (K : PySem.W.Frag) (P : Addr) (ex : List Addr) (D : Addr) (σ : St) (vs : List Nat) (s1 : DSt) (H1 : Hp) (s' : DSt) (H' : Hp) : Prop where
  rel : Rel K P (D :: ex) s' (wipe σ vs) H'
  kr : Kr (OO P ex s1 σ) (OO P (D :: ex) s' (wipe σ vs)) H1 H'
  exk : ∀ a ∈ ex, H' a = H1 a
  own : ∀ a ∈ owns s'.env (wipe σ vs), a ∈ owns s1.env σ ∨ H1 a = none
theorem Mid.upd (m : Mid K P ex D σ vs s1 H1 s' H') (hf : Loose (H' D)) : Mid K P ex D σ vs s1 H1 s' (L2.upd H' D o) := by
  obtain ⟨c1, c2, c3, c4, c5⟩ := m.rel.sep
  refine ⟨m.rel.exUpd hf, ⟨fun a n u e => ⟨(m.kr.1 a n u e).1, ?_⟩, m.kr.2.trans (.upd hf)⟩, fun a ha => ?_, m.own⟩
  · rw [upd_ne fun z => (m.kr.1 a n u e).1 (oo_mem.mpr (.inr (.inl (by rw [z]; exact List.mem_cons_self ..))))]
    exact (m.kr.1 a n u e).2
  · have : a ≠ D := fun z => (List.nodup_cons.mp c4).1 (z ▸ ha)
    rw [upd_ne this]
    exact m.exk a ha
theorem Mid.start (r : Rel K P ex s1 σ H1) (hp : plainAt vs s1.env = true) (n : H1 D = none) : Mid K P ex D σ vs s1 H1 { s1 with env := wipeE vs s1.env } (L2.upd H1 D o) := by
  have w := wipe_owns r.lens hp
  refine ⟨(r.wipe hp).exNew n, ⟨fun a na u e => ?_, .new n⟩, fun a ha => ?_, fun a ha => .inl (by rw [← w]; exact ha)⟩
  · have ne := ne_of_none e n
    refine ⟨fun z => ?_, by rw [upd_ne ne]; exact .inl e⟩
    rcases oo_mem.mp z with z | z | z
    · exact na (oo_mem.mpr (.inl z))
    · rcases List.mem_cons.mp z with z | z
      · exact ne z
      · exact na (oo_mem.mpr (.inr (.inl z)))
    · exact na (oo_mem.mpr (.inr (.inr (by rw [← w]; exact z))))
  · obtain ⟨u, eu⟩ := r.exs a ha
    exact upd_ne (ne_of_none eu n)
theorem Kr.trans {O O' O'' : List Addr} {H H' H'' : Hp} (a : Kr O O' H H') (b : Kr O' O'' H' H'') : Kr O O'' H H'' := ⟨fun x n u e => by
  obtain ⟨n1, k1⟩ := a.1 x n u e
  cases q : H' x with
  | none => exact (k1.ne q).elim
  | some o => exact ⟨(b.1 x n1 o q).1, k1.trans fun w ew => (b.1 x n1 w ew).2⟩, a.2.trans b.2⟩
/-- a turn's end: the own names are put off -/
theorem Mid.next (m : Mid K P ex D σ vs s1 H1 s' H') (x : Step K P (D :: ex) (wipe σ vs) s' H' σ2 s4 H4) (hp : plainAt vs s4.env = true) (hw : wipe σ2 vs = wipe σ vs) : Mid K P ex D σ vs s1 H1 { s4 with env := wipeE vs s4.env } H4 := by
  have w := wipe_owns x.rel.lens hp
  rw [hw] at w
  have r := x.rel.wipe hp
  rw [hw] at r
  have eo : OO P (D :: ex) { s4 with env := wipeE vs s4.env } (wipe σ vs) = OO P (D :: ex) s4 σ2 := by
    show P :: ((D :: ex) ++ owns (wipeE vs s4.env) (wipe σ vs)) = _
    rw [w]
    rfl
  have kr := m.kr.trans x.kr
  refine ⟨r, by rw [eo]; exact kr, fun a ha => (x.exk a (List.mem_cons_of_mem _ ha)).trans (m.exk a ha), fun a ha => ?_⟩
  have ha : a ∈ owns s4.env σ2 := by rw [← w]; exact ha
  rcases x.own a ha with q | q
  · exact m.own a q
  · by_cases hm : a ∈ owns s1.env σ
    · exact .inl hm
    · refine .inr ?_
      cases e : H1 a with
      | none => rfl
      | some u =>
        have na : a ∉ OO P ex s1 σ := fun z => by
          obtain ⟨c1, c2, c3, _⟩ := x.rel.sep
          rcases oo_mem.mp z with z | z | z
          · exact c2 (z ▸ ha)
          · exact c3 a (List.mem_cons_of_mem _ z) ha
          · exact hm z
        exact ((m.kr.1 a na u e).2.ne q).elim
/-- what stands behind the block -/
structure LcEnd (K : PySem.W.Frag) (P : Addr) (ex : List Addr) (σ : St) (s : DSt) (H : Hp) (sF : DSt) (acc : List Dat) (D : Addr) (H' : Hp) : Prop where
  step : Step K P ex σ s H σ sF H'
  rel : Rel K P (D :: ex) sF σ H'
  new : H D = none
  obj : ∃ accV, H' D = some (.lst accV) ∧ Rps K P (OO P (D :: ex) sF σ) H' accV acc
theorem Mid.done {acc : List Dat} {accV : List V} (r1 : Rel K P ex s1 σ H1) (hp : plainAt vs s1.env = true) (n : H1 D = none) (m : Mid K P ex D σ vs s1 H1 s' H') (ho : H' D = some (.lst accV)) (hr : Rps K P (OO P (D :: ex) s' (wipe σ vs)) H' accV acc) :
    LcEnd K P ex σ s1 H1 { s' with env := backE vs s1.env s'.env } acc D H' := by
  obtain ⟨r, e⟩ := Rel.back r1 hp m.rel m.kr
  have eo : OO P (D :: ex) { s' with env := backE vs s1.env s'.env } σ = OO P (D :: ex) s' (wipe σ vs) := by
    show P :: ((D :: ex) ++ owns (backE vs s1.env s'.env) σ) = _
    rw [e]
    rfl
  exact ⟨⟨r.release, ⟨fun a na u ea => (m.kr.1 a na u ea).2, m.kr.2⟩, m.exk, fun a ha => m.own a (by rw [← e]; exact ha)⟩, r, n, accV, ho, by rw [eo]; exact hr⟩
end
/-- a comprehension's target -/
def DTc (X : Cx) (tg : Expr) (t : TG) (h : Dat → DSt → Option DSt) (vs : List Nat) : Prop := PG X tg t ∧ ∀ P ex s σ H v d (Q : St → Hp → Prop), Rel X.K P ex s σ H → Rp X.K P (OO P ex s σ) H v d →
  (match h d s with | some s' => ∀ σ' H', Step X.K P ex σ s H σ' s' H' → wipe σ' vs = wipe σ vs → Q σ' H' | none => False) → t v σ H Q
theorem dtc_name {X : Cx} {i : Nat} {x : Str} {pos : Pos} (hN : X.N.Nodup) (hi : X.N[i]? = some x) (hx : Loc X.env.scope x) (hf : X.fn x = true ∨ X.env.scope.names.lookup x = some .local := by first | exact .inl rfl | exact .inr rfl | assumption) : DTc X (.Name x pos) (gName i) (hName i) [i] :=
  ⟨pg_name hN hi hx hf, fun P ex s σ H v d Q rel r f => f _ _ (.set rel r) (by simp [wipe, List.set_set])⟩
theorem lc_read {K : PySem.W.Frag} {W : WX} {gi : DSt → Out (List Dat)} {t : TG} {h : Dat → DSt → Option DSt} {gt : DSt → Out Bool} {ge : DSt → Out Dat} {vs : List Nat} {σ : St} {H : Hp} {Q : VK} {P : Addr} {ex : List Addr} {s : DSt}
    (ht : ∀ P ex s σ H v d (Q : St → Hp → Prop), Rel K P ex s σ H → Rp K P (OO P ex s σ) H v d → (match h d s with | some s' => ∀ σ' H', Step K P ex σ s H σ' s' H' → wipe σ' vs = wipe σ vs → Q σ' H' | none => False) → t v σ H Q)
    (rel : Rel K P ex s σ H) (f : match gLcA vs gi h gt ge s with | .ok acc sF => ∀ H1 s1 D H', Step K P ex σ s H σ s1 H1 → LcEnd K P ex σ s1 H1 sF acc D H' → Q (.ref D) H' | .ex C fs p => ∀ H' od, XStep K P ex σ s H H' fs p od → W (.ref C) od σ H' | .no => False) :
    tLc (tI K W gi) t (tG K RB W0 gt) (tG K (RP K) W0 ge) vs σ H Q := by
  refine ⟨P, ex, s, rel, ?_⟩
  unfold gLcA at f
  cases q : gi s with
  | no => rw [q] at f; exact f
  | ex C fs p => rw [q] at f; exact f
  | ok items s1 =>
    rw [q] at f
    dsimp only [Out.bind] at f
    by_cases hp : plainAt vs s1.env = true
    case neg => rw [if_neg hp] at f; exact f.elim
    rw [if_pos hp] at f
    cases qL : gLcL vs h gt ge items [] { s1 with env := wipeE vs s1.env } with
    | no => rw [qL] at f; exact f.elim
    | ex C fs p => rw [qL] at f; exact f.elim
    | ok accF sF =>
      rw [qL] at f
      intro J H1 st io D nD
      obtain ⟨G, Y, walk, hG, hY⟩ := io
      refine lc_it walk (fun i H' => ∃ s' acc accV, Mid K P ex D σ vs s1 H1 s' H' ∧ H' D = some (.lst accV) ∧ Rps K P (OO P (D :: ex) s' (wipe σ vs)) H' accV acc ∧ gLcL vs h gt ge (items.drop i) acc s' = .ok accF sF) ⟨_, [], [], Mid.start st.rel hp nD, upd_same, .nil, qL⟩
        (fun i H' hi ⟨s', acc, accV, m, _⟩ => hG _ _ m.kr) (fun i x H' H'' hi ⟨s', acc, accV, m, ho, hr, e⟩ y => ?_) (fun H' ⟨s', acc, accV, m, ho, hr, e⟩ => ?_)
      · obtain ⟨d, e1, io⟩ := hY i _ H' x H'' hi m.kr y
        obtain ⟨x2, r2⟩ := iter_step m.rel io
        rw [List.drop_eq_getElem_cons hi, show items[i] = d from by
          have := List.getElem?_eq_getElem hi
          rw [e1] at this
          exact (Option.some.inj this).symm] at e
        refine ht P (D :: ex) s' (wipe σ vs) H'' x d _ x2.rel r2 ?_
        unfold gLcL at e
        cases q1 : h d s' with
        | none => rw [q1] at e; cases e
        | some s2 =>
          rw [q1] at e
          dsimp only at e
          intro σ2 H2 x3 hw
          rw [wipe_wipe] at hw
          refine ⟨hw, P, D :: ex, s2, x3.rel, ?_⟩
          cases q2 : gt s2 with
          | no => rw [q2] at e; cases e
          | ex C fs p => rw [q2] at e; cases e
          | ok b s3 =>
            rw [q2] at e
            intro H3 b' x4 hb
            obtain rfl : b' = b := hb
            have x5 := (x2.trans x3).trans x4
            cases b' with
            | false =>
              dsimp only at e
              refine iteF ?_
              by_cases hp3 : plainAt vs s3.env = true
              case neg => rw [if_neg hp3] at e; cases e
              rw [if_pos hp3] at e
              have w := wipe_owns x5.rel.lens hp3
              rw [hw] at w
              refine ⟨_, acc, accV, m.next x5 hp3 hw, (x5.exk D (List.mem_cons_self ..)).trans ho, ?_, e⟩
              have r5 := hr.kr x5.kr
              show Rps K P (P :: ((D :: ex) ++ owns (wipeE vs s3.env) (wipe σ vs))) H3 accV acc
              rw [w]
              exact r5
            | true =>
              dsimp only at e
              refine iteT ⟨P, D :: ex, s3, x4.rel, ?_⟩
              cases q3 : ge s3 with
              | no => rw [q3] at e; cases e
              | ex C fs p => rw [q3] at e; cases e
              | ok yd s4 =>
                rw [q3] at e
                dsimp only at e
                intro H4 v x6 rv
                have x7 := x5.trans x6
                by_cases hp3 : acc.length < sizeLine ∧ plainAt vs s4.env = true
                case neg => rw [if_neg hp3] at e; cases e
                rw [if_pos hp3] at e
                have w := wipe_owns x7.rel.lens hp3.2
                rw [hw] at w
                have nf : Loose (H4 D) := .lst ((x7.exk D (List.mem_cons_self ..)).trans ho)
                refine ⟨accV, (x7.exk D (List.mem_cons_self ..)).trans ho, by rw [hr.length]; exact hp3.1, _, _, _, (m.next x7 hp3.2 hw).upd nf, upd_same, ?_, e⟩
                have r5 := hr.kr x7.kr
                have rv : Rp K P (OO P (D :: ex) s4 σ2) H4 v yd := rv
                have r6 := r5.append (.cons rv .nil)
                have kp : Kp (OO P (D :: ex) s4 σ2) H4 (L2.upd H4 D (.lst (accV ++ [v]))) := .updO (oo_mem.mpr (.inr (.inl (List.mem_cons_self ..)))) nf
                show Rps K P (P :: ((D :: ex) ++ owns (wipeE vs s4.env) (wipe σ vs))) _ _ _
                rw [w]
                exact r6.kp kp
      · rw [List.drop_length] at e
        cases e
        exact f H1 s1 D H' st (Mid.done st.rel hp nD m ho hr)
end BD
namespace BD
open PySem PySem.Spec PyProof.Rows L2
section
variable {K : PySem.W.Frag} {P D : Addr} {ex : List Addr} {s s1 sF : DSt} {σ : St} {H H1 H' : Hp} {acc : List Dat}
theorem Rel.exNot (r : Rel K P (D :: ex) s σ H) : D ∉ OO P ex s σ := by
  have n := r.nd
  unfold OO at n ⊢
  simp only [List.cons_append, List.nodup_cons, List.mem_cons, not_or] at n ⊢
  exact ⟨fun z => n.1.1 z.symm, n.2.1⟩
theorem LcEnd.val (x : LcEnd K P ex σ s H sF acc D H') : Rp K P (OO P ex sF σ) H' (.ref D) (.lst acc) := by
  obtain ⟨accV, ho, hr⟩ := x.obj
  exact .lst ⟨x.rel.exNot, ho⟩ (hr.anti fun b hb => oo_mem.mpr ((oo_mem.mp hb).imp id fun q => q.imp (List.mem_cons_of_mem _) id))
theorem LcEnd.push (x : LcEnd K P ex σ s H sF acc D H') : Step K P ex σ s H (σ ++ [some (.ref D)]) { sF with env := sF.env ++ [.ol acc] } H' := by
  obtain ⟨accV, ho, hr⟩ := x.obj
  have e1 : owns (sF.env ++ [.ol acc]) (σ ++ [some (.ref D)]) = owns sF.env σ ++ [D] := by
    rw [owns_append x.rel.lens]
    simp [owns, own1, DV.isO]
  have perm : (OO P ex { sF with env := sF.env ++ [.ol acc] } (σ ++ [some (.ref D)])).Perm (OO P (D :: ex) sF σ) := by
    show (P :: (ex ++ owns (sF.env ++ [.ol acc]) (σ ++ [some (.ref D)]))).Perm (P :: ((D :: ex) ++ owns sF.env σ))
    rw [e1]
    refine List.Perm.cons _ (List.perm_iff_count.mpr fun a => ?_)
    simp only [List.count_append, List.count_cons, List.count_nil]
    omega
  have sub : ∀ b ∈ OO P ex { sF with env := sF.env ++ [.ol acc] } (σ ++ [some (.ref D)]), b ∈ OO P (D :: ex) sF σ := fun b hb => perm.mem_iff.mp hb
  refine ⟨⟨perm.nodup_iff.mpr x.rel.nd, Paired.append (Paired.own x.rel.sl fun e' r' _ h => h.kr (.anti sub) fun _ _ => rfl) (.cons ⟨D, accV, rfl, ho, hr.anti sub⟩ .nil), x.rel.pen.anti sub, fun a ha => x.rel.exs a (List.mem_cons_of_mem _ ha)⟩, x.step.keep, x.step.exk, fun b hb => ?_⟩
  have hb : b ∈ owns sF.env σ ++ [D] := by rw [← e1]; exact hb
  rcases List.mem_append.mp hb with z | z
  · exact x.step.own b z
  · exact .inr (by rw [show b = D by simpa using z]; exact x.new)
end
section
variable {X : Cx} {W : WX} {elt tg iter : Expr} {ifs : List Expr} {scope : Scope} {own : List (Str × Nat)} {pos : Pos} {t : TG} {gi : DSt → Out (List Dat)} {h : Dat → DSt → Option DSt} {gt : DSt → Out Bool} {ge : DSt → Out Dat}
def gYes : DSt → Out Bool := fun s => .ok true s
theorem PTs.imp {ifs : List Expr} {t u : TT} (h : PTs X ifs t) (i : ∀ σ H Q, u σ H Q → t σ H Q) : PTs X ifs u := ⟨fun pins s σ H Q I q => h.run pins s σ H Q I (i σ H Q q)⟩
abbrev DTs (X : Cx) (W : WX) (ifs : List Expr) (g : DSt → Out Bool) : Prop := PTs X ifs (tG X.K RB W g)
theorem dts_nil : DTs X W [] gYes := PTs.imp pts_nil fun σ H Q ⟨P, ex, s, rel, f⟩ => fin_ok f rel rfl
theorem dts_one {c : Expr} {g : DSt → Out Bool} (h : DT X W c g) : DTs X W [c] g := pts_one h
theorem de_lc (hc : X.calm = true) (hN : X.N.Nodup) (hi : DIt X W tg iter gi) (ok : BlkOk X.N X.env.scope scope own)
    (hg : ∀ (s : Shared) (H : Hp) (C : Addr) (cl : List (Str × Addr)) (fp : List Addr), DTc (X.blk s H scope (compEnvC scope cl C X.env) fp) tg t h (own.map (·.2))) (ht : ∀ (s : Shared) (H : Hp) (C : Addr) (cl : List (Str × Addr)) (fp : List Addr), DTs (X.blk s H scope (compEnvC scope cl C X.env) fp) W0 ifs gt)
    (he : ∀ (s : Shared) (H : Hp) (C : Addr) (cl : List (Str × Addr)) (fp : List Addr), DE (X.blk s H scope (compEnvC scope cl C X.env) fp) W0 elt ge) (hs : ∀ x, foldedSetIterable iter X.env x = pure x := by intro _; rfl) :
    DE X W (.ListComp elt [⟨tg, iter, ifs, 0⟩] scope pos) (gLc (own.map (·.2)) gi h gt ge) := PE.imp (pe_lc (tt := tG X.K RB W0 gt) (te := tG X.K (RP X.K) W0 ge) hc hN hi ok (fun s H C cl fp => (hg s H C cl fp).1) ht he hs) fun σ H Q ⟨P, ex, s, rel, f⟩ => by
  refine lc_read (W := W) (P := P) (ex := ex) (s := s) (h := h) (hg X.s_0 (fun _ => none) 0 [] []).2 rel ?_
  unfold gLc at f
  cases q : gLcA (own.map (·.2)) gi h gt ge s with
  | no => rw [q] at f; exact f
  | ex C fs p => rw [q] at f; exact f
  | ok acc sF =>
    rw [q] at f
    exact fun H1 s1 D H' st x => f H' (.ref D) (st.trans x.step) x.val
end
end BD
namespace BD
open PySem PySem.Spec PyProof.Rows L2
mutual
def toPy : Dat → Option PyData
  | .non => some .none
  | .bl b => some (.bool b)
  | .int i => some (.int i)
  | .str x => some (.str x)
  | .lst xs => (toPys xs).map .list
  | .tup xs => (toPys xs).map .tuple
  | .dic ks => (toPyk ks).map .dict
  | _ => none
def toPys : List Dat → Option (List PyData)
  | [] => some []
  | x :: xs => (toPy x).bind fun a => (toPys xs).map fun b => a :: b
def toPyk : List (Key × Dat) → Option (List (PyData × PyData))
  | [] => some []
  | p :: ks => (toPyp p).bind fun a => (toPyk ks).map fun b => (BR.kD p.1, a) :: b
def toPyp : Key × Dat → Option PyData
  | (_, d) => toPy d
end
theorem toPyk_split : ∀ {ks : List (Key × Dat)} {ps : List (PyData × PyData)}, toPyk ks = some ps → ps.map (·.1) = ks.map (fun p => BR.kD p.1) ∧ toPys (ks.map (·.2)) = some (ps.map (·.2))
  | [], ps, h => by
    rw [toPyk] at h
    cases h
    exact ⟨rfl, by rw [List.map_nil, toPys]; rfl⟩
  | (k, d) :: ks, ps, h => by
    rw [toPyk, toPyp] at h
    cases e1 : toPy d with
    | none => rw [e1] at h; cases h
    | some a =>
      cases e2 : toPyk ks with
      | none => rw [e1, e2] at h; cases h
      | some b =>
        rw [e1, e2] at h
        cases h
        obtain ⟨q1, q2⟩ := toPyk_split e2
        refine ⟨by simp [q1], ?_⟩
        rw [List.map_cons, toPys, e1, q2]
        rfl
section
variable {X : Cx} {pins : List (Addr × Obj)} {σ : St} {H : Hp} {s : Shared} {P : Addr} {O : List Addr}
theorem dict_reads (I : Inv X pins σ H s) {a : Addr} {kvs : List (Key × V)} {ks : List (Key × Dat)} {ps : List (PyData × PyData)} (hd : Rd H a (.dK kvs)) (he : kvs.map (·.1) = ks.map (·.1)) (hp : ps.map (·.1) = ks.map (fun p => BR.kD p.1))
    (hv : ∀ us : List Value, Vals (kvs.map (·.2)) us → ∃ as, ReadsAll s.heap us (ps.map (·.2)) as) : ∃ as, Reads s.heap (.ref a) (.dict ps) as := by
  obtain ⟨_, _, vs, kv, o, es, ep, ho, hx, hd, _, hm, _⟩ := dk_rd I.hok hd
  obtain ⟨rk, ev⟩ := BR.pairs_reads (h := s.heap) (fun k v z => z) hm
  obtain ⟨k1, k2⟩ := BR.kv_split kv
  obtain ⟨bs, rb⟩ := hv _ k2
  rw [k1, show (kvs.map fun p => BR.kD p.1) = ps.map (·.1) by
    rw [hp, show (fun (p : Key × V) => BR.kD p.1) = BR.kD ∘ (fun p => p.1) from rfl, show (fun (p : Key × Dat) => BR.kD p.1) = BR.kD ∘ (fun p => p.1) from rfl, ← List.map_map, ← List.map_map, he]] at rk
  rw [← ev] at rb
  exact ⟨_, .dict ho hx.1 hd rk rb⟩
mutual
theorem rp_reads (I : Inv X pins σ H s) : ∀ {v : V} {d : Dat} {u : Value} {p : PyData}, Rp X.K P O H v d → toPy d = some p → RelV v u → ∃ as, Reads s.heap u p as
  | _, _, _, _, .non, e, r => by
    rw [toPy] at e
    cases e
    cases r
    exact ⟨_, .none⟩
  | _, _, _, _, .bl b, e, r => by
    rw [toPy] at e
    cases e
    cases r
    exact ⟨_, .bool b⟩
  | _, _, _, _, .int i, e, r => by
    rw [toPy] at e
    cases e
    obtain ⟨t, rfl⟩ := r
    exact ⟨_, .int i t⟩
  | _, _, _, _, .str x, e, r => by
    rw [toPy] at e
    cases e
    obtain ⟨t, rfl⟩ := r
    exact ⟨_, .str x t⟩
  | _, .lst xs, _, _, .lst hs rs, e, r => by
    rw [toPy] at e
    cases q : toPys xs with
    | none => rw [q] at e; cases e
    | some ps =>
      rw [q] at e
      cases e
      cases r
      obtain ⟨its, rv, ⟨o, n, ho, hc, _, hd⟩, _⟩ := I.list hs.sq
      obtain ⟨as, hr⟩ := rps_reads I rs q rv
      exact ⟨_, .list ho hc hd hr⟩
  | _, .tup xs, _, _, .tup hs rs, e, r => by
    rw [toPy] at e
    cases q : toPys xs with
    | none => rw [q] at e; cases e
    | some ps =>
      rw [q] at e
      cases e
      cases r
      obtain ⟨its, rv, ⟨o, ho, hc, n, hd⟩, _⟩ := I.tuple hs.sq
      obtain ⟨as, hr⟩ := rps_reads I rs q rv
      exact ⟨_, .tuple ho hc hd hr⟩
  | _, .dic ks, _, _, .dic n hs he rs, e, r => by
    rw [toPy] at e
    cases q : toPyk ks with
    | none => rw [q] at e; cases e
    | some ps =>
      rw [q] at e
      cases e
      cases r
      obtain ⟨q1, q2⟩ := toPyk_split q
      exact dict_reads I (.inr hs) he q1 fun us rv => rps_reads I rs q2 rv
  | _, _, _, _, .ins _ _ _ _, e, _ => by
    rw [toPy] at e <;> simp_all
  | _, _, _, _, .pen, e, _ => by
    rw [toPy] at e <;> simp_all
  | _, _, _, _, .bor _ _ _, e, _ => by
    rw [toPy] at e <;> simp_all
theorem rps_reads (I : Inv X pins σ H s) : ∀ {vs : List V} {ds : List Dat} {us : List Value} {ps : List PyData}, Rps X.K P O H vs ds → toPys ds = some ps → Vals vs us → ∃ as, ReadsAll s.heap us ps as
  | _, _, _, _, .nil, e, r => by
    rw [toPys] at e
    cases e
    cases r
    exact ⟨_, .nil⟩
  | _, _, _, _, .cons (x := x) (xs := xs) h t, e, .cons r1 r2 => by
    rw [toPys] at e
    cases q1 : toPy x with
    | none => rw [q1] at e; cases e
    | some a =>
      cases q2 : toPys xs with
      | none => rw [q1, q2] at e; cases e
      | some b =>
        rw [q1, q2] at e
        cases e
        obtain ⟨as, z1⟩ := rp_reads I h q1 r1
        obtain ⟨bs, z2⟩ := rps_reads I t q2 r2
        exact ⟨_, .cons z1 z2⟩
end
theorem vw_reads (I : Inv X pins σ H s) {v : V} {d : Dat} {u : Value} {p : PyData} (h : Vw X.K P O H v d) (e : toPy d = some p) (r : RelV v u) : ∃ as, Reads s.heap u p as := by
  cases d with
  | lst xs =>
    obtain ⟨a, vs, rfl, hs, rs⟩ := h
    rw [toPy] at e
    cases q : toPys xs with
    | none => rw [q] at e; cases e
    | some ps =>
      rw [q] at e
      cases e
      cases r
      obtain ⟨its, rv, ⟨o, n, ho, hc, _, hd⟩, _⟩ := I.list (.of hs)
      obtain ⟨as, hr⟩ := rps_reads I rs q rv
      exact ⟨_, .list ho hc hd hr⟩
  | dic ks =>
    obtain ⟨a, kvs, rfl, hs, he, rs⟩ := h
    rw [toPy] at e
    cases q : toPyk ks with
    | none => rw [q] at e; cases e
    | some ps =>
      rw [q] at e
      cases e
      cases r
      obtain ⟨q1, q2⟩ := toPyk_split q
      exact dict_reads I hs he q1 fun us rv => rps_reads I rs q2 rv
  | ins C fs => rw [toPy] at e <;> simp_all
  | bor fs => rw [toPy] at e <;> simp_all
  | _ => exact rp_reads I (show Rp X.K P O H v _ from h) e r
end
def eqD (a b : Dat) : Option Bool := match toPy a, toPy b with
  | some p, some q => if SeqAt.shaped p = true ∧ SeqAt.shaped q = true then some (PyData.eqv p q) else none
  | _, _ => none
def hEq : Dat → Dat → DSt → Out Dat := fun a b s => match eqD a b with
  | some r => .ok (.bl r) s
  | none => .no
def hNe : Dat → Dat → DSt → Out Dat := fun a b s => match eqD a b with
  | some r => .ok (.bl (!r)) s
  | none => .no
def rEqW (K : PySem.W.Frag) : R2 := fun x y H Q => ∃ P O a b r, Vw K P O H x a ∧ Vw K P O H y b ∧ eqD a b = some r ∧ Q (.bl r) H
def rNeW (K : PySem.W.Frag) : R2 := fun x y H Q => ∃ P O a b r, Vw K P O H x a ∧ Vw K P O H y b ∧ eqD a b = some r ∧ Q (.bl (!r)) H
section
variable {X : Cx} {W : WX}
theorem eqD_some {a b : Dat} {r : Bool} (e : eqD a b = some r) : ∃ p q, toPy a = some p ∧ toPy b = some q ∧ SeqAt.shaped p = true ∧ SeqAt.shaped q = true ∧ PyData.eqv p q = r := by
  unfold eqD at e
  cases h1 : toPy a with
  | none => rw [h1] at e; cases e
  | some p =>
    cases h2 : toPy b with
    | none => rw [h1, h2] at e; cases e
    | some q =>
      rw [h1, h2] at e
      by_cases h : SeqAt.shaped p = true ∧ SeqAt.shaped q = true
      · exact ⟨p, q, rfl, rfl, h.1, h.2, by simpa [h] using e⟩
      · simp [h] at e
theorem op_eqW (hu : X.A.units + 64 < cLine) : OpR X (compareOp .Eq) (rEqW X.K) := by
  intro pins s σ H x y v u Q I rx ry h
  obtain ⟨P, O, a, b, r, ha, hb, e, q⟩ := h
  obtain ⟨p1, p2, e1, e2, s1, s2, rfl⟩ := eqD_some e
  obtain ⟨as, r1⟩ := vw_reads I ha e1 rx
  obtain ⟨bs, r2⟩ := vw_reads I hb e2 ry
  exact SeqAt.compareEq_shaped r1 r2 s1 s2 hu ⟨.bl _, H, I, rfl, q⟩
theorem op_neW (hu : X.A.units + 64 < cLine) : OpR X (compareOp .NotEq) (rNeW X.K) := by
  intro pins s σ H x y v u Q I rx ry h
  obtain ⟨P, O, a, b, r, ha, hb, e, q⟩ := h
  obtain ⟨p1, p2, e1, e2, s1, s2, rfl⟩ := eqD_some e
  obtain ⟨as, r1⟩ := vw_reads I ha e1 rx
  obtain ⟨bs, r2⟩ := vw_reads I hb e2 ry
  exact SeqAt.compareNe_shaped r1 r2 s1 s2 hu ⟨.bl _, H, I, rfl, q⟩
theorem d2_eq : D2 X W (rEqW X.K) hEq := fun P ex s σ H x y dx dy Q rel hx hy f => by
  unfold hEq at f
  cases e : eqD dx dy with
  | none => rw [e] at f; exact f.elim
  | some r =>
    rw [e] at f
    exact ⟨P, _, dx, dy, r, hx, hy, e, fin_ok f rel (Rp.bl r)⟩
theorem d2_ne : D2 X W (rNeW X.K) hNe := fun P ex s σ H x y dx dy Q rel hx hy f => by
  unfold hNe at f
  cases e : eqD dx dy with
  | none => rw [e] at f; exact f.elim
  | some r =>
    rw [e] at f
    exact ⟨P, _, dx, dy, r, hx, hy, e, fin_ok f rel (Rp.bl _)⟩
end
end BD
namespace BD
open PySem PySem.Spec PyProof.Rows L2
section
variable {X : Cx} {W : WX}
theorem tun_read {r : List V → Hp → VK → Prop} {h : Dat → DSt → Out Dat} {g : DSt → Out (Nat ⊕ Dat)} (hd : D1 X W (fun x H Q => r [x] H Q) h) {σ : St} {H : Hp} {Q : VK} (t : tG X.K (RP X.K) W (gUn h g) σ H Q) : tCB r (tCons (tG X.K (RH X.K) W g) tNil) σ H Q := by
  obtain ⟨P, ex, s, rel, f⟩ := t
  unfold gUn at f
  refine tG_seq rel f fun hx s1 H1 x st rx f1 => ?_
  cases e1 : look s1 hx with
  | none => rw [e1] at f1; exact f1.elim
  | some dx =>
    rw [e1] at f1
    exact hd P ex s1 σ H1 x dx Q st.rel (look_vw st.rel rx e1) f1
theorem de_b1 {id x : Str} {r : List V → Hp → VK → Prop} {h : Dat → DSt → Out Dat} {g : DSt → Out (Nat ⊕ Dat)} {e : Expr} {p pos : Pos} {idn : String} (hc : CallR X (.builtin idn) r) (hd : D1 X W (fun x H Q => r [x] H Q) h) (hg : Gl X x) (hm : X.mg x = none) (hv : bootBuiltins x = some (.builtin idn)) (ha : DH X W e g) (hn : x ≠ "__name__" := by decide) (hdb : (x == ("__debug__" : Str)) = false := by decide)
    (hs : starEach (e :: []) X.env = (false, eval e X.env) :: starEach [] X.env := by rfl) (he : starEach (e :: []) X.env = (false, eval e X.env) :: starEach [] X.env := by rfl) (hpl : (backTo pos (starEach [] X.env)).any (·.1) = false := by rfl) : DE X W (.Call (.Name x p) [e] [] pos) (gUn h g) :=
  PE.imp (pe_callB hc hg hm hv (pa_cons ha pa_nil hs) hn hdb he hpl) fun σ H Q t => tun_read hd t
theorem de_t1 {x : Str} {T : String} {r : List V → Hp → VK → Prop} {h : Dat → DSt → Out Dat} {g : DSt → Out (Nat ⊕ Dat)} {e : Expr} {p pos : Pos} (hc : CallR X (.type T) r) (hd : D1 X W (fun x H Q => r [x] H Q) h) (hg : Gl X x) (hm : X.mg x = none) (hv : bootBuiltins x = some (.type T)) (ha : DH X W e g) (hn : x ≠ "__name__" := by decide) (hdb : (x == ("__debug__" : Str)) = false := by decide)
    (hs : starEach (e :: []) X.env = (false, eval e X.env) :: starEach [] X.env := by rfl) (he : starEach (e :: []) X.env = (false, eval e X.env) :: starEach [] X.env := by rfl) (hpl : (backTo pos (starEach [] X.env)).any (·.1) = false := by rfl) : DE X W (.Call (.Name x p) [e] [] pos) (gUn h g) :=
  PE.imp (pe_callTy hc hg hm hv (pa_cons ha pa_nil hs) hn hdb he hpl) fun σ H Q t => tun_read hd t
def hLen : Dat → DSt → Out Dat := fun d s => match d with
  | .lst xs => .ok (.int xs.length) s
  | .tup xs => .ok (.int xs.length) s
  | .dic ks => .ok (.int ks.length) s
  | .str x => if x.length ≤ sizeLine then .ok (.int x.length) s else .no
  | _ => .no
theorem call_lenDR : CallR X (.builtin "len") (fun xs H Q => ∃ a kvs, xs = [V.ref a] ∧ Rd H a (.dK kvs) ∧ Q (.int kvs.length) H) := by
  intro pins s σ H xs us Q I r h
  obtain ⟨a, kvs, rfl, ha, q⟩ := h
  obtain ⟨u, rfl, ru⟩ := vals1 r
  cases ru
  exact d_len I ha fun t s' I' => ⟨.int kvs.length, H, I', ⟨t, rfl⟩, q⟩
def rLenW (K : PySem.W.Frag) : List V → Hp → VK → Prop := fun xs H Q => (∃ x n, xs = [x] ∧ LenV K x H n ∧ Q (.int n) H) ∨ (∃ a kvs, xs = [V.ref a] ∧ Rd H a (.dK kvs) ∧ Q (.int kvs.length) H)
theorem call_lenW : CallR X (.builtin "len") (rLenW X.K) := CallR.or call_len call_lenDR
theorem d1_len : D1 X W (fun x H Q => rLenW X.K [x] H Q) hLen := fun P ex s σ H x dx Q rel hx f => by
  cases dx with
  | lst xs =>
    obtain ⟨a, vs, rfl, hs, rs⟩ := hx
    refine .inl ⟨_, vs.length, rfl, .inl ⟨vs, .of hs, rfl⟩, ?_⟩
    rw [rs.length]
    exact fin_ok f rel (Rp.int _)
  | tup xs =>
    have hx : Rp X.K P (OO P ex s σ) H x (.tup xs) := hx
    cases hx with
    | @tup a vs _ hs rs =>
      refine .inl ⟨_, vs.length, rfl, .inr ⟨vs, hs.sq, rfl⟩, ?_⟩
      rw [rs.length]
      exact fin_ok f rel (Rp.int _)
  | dic ks =>
    obtain ⟨a, kvs, rfl, hs, he, rs⟩ := hx
    refine .inr ⟨a, kvs, rfl, hs, ?_⟩
    have hl : kvs.length = ks.length := by simpa using congrArg List.length he
    rw [hl]
    exact fin_ok f rel (Rp.int _)
  | str z =>
    have hx : Rp X.K P (OO P ex s σ) H x (.str z) := hx
    cases hx
    obtain ⟨h1, f1⟩ := Fin.if f
    exact .inl ⟨_, z.length, rfl, ⟨h1, rfl⟩, fin_ok f1 rel (Rp.int _)⟩
  | _ => exact f.elim
def hII (f : Int → Int → Dat) : Dat → Dat → DSt → Out Dat := fun a b s => match a, b with
  | .int i, .int j => .ok (f i j) s
  | _, _ => .no
theorem d2_ii {g : Int → Int → V} {f : Int → Int → Dat} (h : ∀ i j P O H, Rp X.K P O H (g i j) (f i j)) : D2 X W (rI0 g) (hII f) := fun P ex s σ H x y dx dy Q rel hx hy fn => by
  cases dx with
  | int i =>
    cases dy with
    | int j =>
      cases (show Rp X.K P (OO P ex s σ) H x (.int i) from hx)
      cases (show Rp X.K P (OO P ex s σ) H y (.int j) from hy)
      exact ⟨i, j, rfl, rfl, fin_ok fn rel (h i j ..)⟩
    | _ => exact fn.elim
  | _ => cases dy <;> exact fn.elim
theorem d2_lt : D2 X W (rI0 fun i j => .bl (decide (i < j))) (hII fun i j => .bl (decide (i < j))) := d2_ii fun _ _ _ _ _ => .bl _
theorem d2_le : D2 X W (rI0 fun i j => .bl (decide (i ≤ j))) (hII fun i j => .bl (decide (i ≤ j))) := d2_ii fun _ _ _ _ _ => .bl _
theorem d2_gt : D2 X W (rI0 fun i j => .bl (decide (j < i))) (hII fun i j => .bl (decide (j < i))) := d2_ii fun _ _ _ _ _ => .bl _
def hAdd : Dat → Dat → DSt → Out Dat := fun a b s => match a, b with
  | .int i, .int j => .ok (.int (i + j)) s
  | .str x, .str y => if x.length + y.length ≤ sizeLine then .ok (.str (x ++ y)) s else .no
  | .lst xs, .lst ys => if xs.length + ys.length ≤ sizeLine then .ok (.lst (xs ++ ys)) s else .no
  | _, _ => .no
def rAddW (K : PySem.W.Frag) : R2 := fun x y H Q => (rI0 (fun i j => .int (i + j)) x y H Q ∨ ∃ i j, x = .str i ∧ y = .str j ∧ i.length + j.length ≤ sizeLine ∧ Q (.str (i ++ j)) H) ∨ rCat x y H Q
theorem op_addW : OpR X (binaryOp .Add) (rAddW X.K) := OpR.or (OpR.or op_add op_add_str) op_cat
theorem d2_add : D2 X W (rAddW X.K) hAdd := fun P ex s σ H x y dx dy Q rel hx hy f => by
  cases dx with
  | int i =>
    cases dy with
    | int j =>
      cases (show Rp X.K P (OO P ex s σ) H x (.int i) from hx)
      cases (show Rp X.K P (OO P ex s σ) H y (.int j) from hy)
      exact .inl (.inl ⟨i, j, rfl, rfl, fin_ok f rel (Rp.int _)⟩)
    | _ => exact f.elim
  | str i =>
    cases dy with
    | str j =>
      cases (show Rp X.K P (OO P ex s σ) H x (.str i) from hx)
      cases (show Rp X.K P (OO P ex s σ) H y (.str j) from hy)
      obtain ⟨h1, f1⟩ := Fin.if f
      exact .inl (.inr ⟨i, j, rfl, rfl, h1, fin_ok f1 rel (Rp.str _)⟩)
    | _ => exact f.elim
  | lst xs =>
    cases dy with
    | lst ys =>
      obtain ⟨a, vs, rfl, ha, ra⟩ := hx
      obtain ⟨b, us, rfl, hb, rb⟩ := hy
      obtain ⟨h1, f1⟩ := Fin.if f
      exact .inr ⟨a, b, vs, us, rfl, rfl, ha, hb, by rw [ra.length, rb.length]; exact h1, fun p n => fin_new f1 rel n fun m k => .lst ⟨m, upd_same⟩ ((ra.append rb).kp k)⟩
    | _ => exact f.elim
  | _ => cases dy <;> exact f.elim
end
end BD
namespace BD
open PySem PySem.Spec PyProof.Rows L2
section
variable {X : Cx} {W : WX}
theorem IxR.or {r r' : R2} (h : IxR X r) (h' : IxR X r') : IxR X (fun x y H Q => r x y H Q ∨ r' x y H Q) := by
  intro value slice pins s σ H x y v u Q I rx ry q hs
  rcases q with q | q
  · exact h value slice pins s σ H x y v u Q I rx ry q hs
  · exact h' value slice pins s σ H x y v u Q I rx ry q hs
def hIx : Dat → Dat → DSt → Out Dat := fun a b s => match a, b with
  | .lst xs, .int i => match atI xs i with
    | some d => .ok d s
    | none => .no
  | .tup xs, .int i => match atI xs i with
    | some d => .ok d s
    | none => .no
  | _, _ => .no
theorem atI_rp {K : PySem.W.Frag} {P : Addr} {O : List Addr} {H : Hp} {vs : List V} {ds : List Dat} (r : Rps K P O H vs ds) {i : Int} {d : Dat} (e : atI ds i = some d) : ∃ v, atI vs i = some v ∧ Rp K P O H v d := by
  unfold atI at e ⊢
  rw [r.length]
  cases q : ixN ds.length i with
  | none => rw [q] at e; cases e
  | some j =>
    rw [q] at e
    exact r.get e
theorem d2_ix : D2 X W (fun x y H Q => rIxL X.K x y H Q ∨ rIxT X.K x y H Q) hIx := fun P ex s σ H x y dx dy Q rel hx hy f => by
  cases dx with
  | lst xs =>
    cases dy with
    | int i =>
      obtain ⟨a, vs, rfl, hs, rs⟩ := hx
      cases (show Rp X.K P (OO P ex s σ) H y (.int i) from hy)
      have f : Fin X.K P ex (RP X.K) W σ s H Q (match atI xs i with | some d => .ok d s | none => .no) := f
      cases e : atI xs i with
      | none => rw [e] at f; exact f.elim
      | some d =>
        rw [e] at f
        obtain ⟨v, e1, r1⟩ := atI_rp rs e
        exact .inl ⟨a, vs, i, v, rfl, rfl, .of hs, e1, fin_ok f rel r1⟩
    | _ => exact f.elim
  | tup xs =>
    cases dy with
    | int i =>
      have hx : Rp X.K P (OO P ex s σ) H x (.tup xs) := hx
      cases hx with
      | @tup a vs _ hs rs =>
        cases (show Rp X.K P (OO P ex s σ) H y (.int i) from hy)
        have f : Fin X.K P ex (RP X.K) W σ s H Q (match atI xs i with | some d => .ok d s | none => .no) := f
        cases e : atI xs i with
        | none => rw [e] at f; exact f.elim
        | some d =>
          rw [e] at f
          obtain ⟨v, e1, r1⟩ := atI_rp rs e
          exact .inr ⟨a, vs, i, v, rfl, rfl, hs.sq, e1, fin_ok f rel r1⟩
    | _ => exact f.elim
  | _ => cases dy <;> exact f.elim
theorem de_ix {a b : Expr} {pos : Pos} {ga gb : DSt → Out (Nat ⊕ Dat)} (ha : DH X W a ga) (hb : DH X W b gb) (hs : PlainIx b) : DE X W (.Subscript a b pos) (gOp hIx ga gb) :=
  PE.imp (pe_ix (IxR.or ix_list ix_tup) ha hb hs) fun σ H Q t => top_read (K := X.K) (P := 0) (ex := []) d2_ix t
def valD (ks : List (Key × Dat)) (k : Key) : Option Dat := (ks.find? fun kv => decide (kv.1 = k)).map (·.2)
def keyD : Dat → Option Key
  | .int i => some (.inl i)
  | .str x => some (.inr x)
  | _ => none
theorem val_rp {K : PySem.W.Frag} {P : Addr} {O : List Addr} {H : Hp} (k : Key) : ∀ {kvs : List (Key × V)} {ks : List (Key × Dat)}, kvs.map (·.1) = ks.map (·.1) → Rps K P O H (kvs.map (·.2)) (ks.map (·.2)) →
    (valD ks k = none ∧ valV kvs k = none) ∨ ∃ d v, valD ks k = some d ∧ valV kvs k = some v ∧ Rp K P O H v d
  | [], [], _, _ => .inl ⟨rfl, rfl⟩
  | (k1, v) :: kvs, (k2, d) :: ks, e, r => by
    simp only [List.map_cons, List.cons.injEq] at e
    obtain ⟨e1, e2⟩ := e
    have e1 : k1 = k2 := e1
    subst e1
    cases r with
    | cons h t =>
      by_cases q : k1 = k
      · refine .inr ⟨d, v, ?_, ?_, h⟩
        · simp [valD, List.find?_cons, q]
        · simp [valV, List.find?_cons, q]
      · have := val_rp k e2 t
        simpa [valD, valV, List.find?_cons, q] using this
  | [], _ :: _, e, _ => by cases e
  | _ :: _, [], e, _ => by cases e
theorem key_vw {K : PySem.W.Frag} {P : Addr} {O : List Addr} {H : Hp} {y : V} {d : Dat} {k : Key} (h : Vw K P O H y d) (e : keyD d = some k) : y = kV k := by
  cases d with
  | int i =>
    cases (show Rp K P O H y (.int i) from h)
    cases e
    rfl
  | str i =>
    cases (show Rp K P O H y (.str i) from h)
    cases e
    rfl
  | _ => cases e
def hDGet : Dat → Dat → DSt → Out Dat := fun a b s => match dicOf a, keyD b with
  | some ks, some k => match valD ks k with
    | some d => .ok d s
    | none => .no
  | _, _ => .no
def hDIn : Dat → Dat → DSt → Out Dat := fun b a s => match a, keyD b with
  | .dic ks, some k => .ok (.bl (valD ks k).isSome) s
  | _, _ => .no
def hDNotIn : Dat → Dat → DSt → Out Dat := fun b a s => match a, keyD b with
  | .dic ks, some k => .ok (.bl (!(valD ks k).isSome)) s
  | _, _ => .no
theorem d2_dget : D2 X W (fun x y H Q => ∃ a v, x = .ref a ∧ DGet H a y (some v) ∧ Q v H) hDGet := fun P ex s σ H x y dx dy Q rel hx hy f => by
  unfold hDGet at f
  cases qd : dicOf dx with
  | some ks =>
    rw [qd] at f
    cases e : keyD dy with
    | none => rw [e] at f; exact f.elim
    | some k =>
      rw [e] at f
      dsimp only at f
      obtain ⟨a, kvs, rfl, hs, he, rs⟩ := vw_dic hx qd
      have ey := key_vw hy e
      rcases val_rp k he rs with ⟨h1, h2⟩ | ⟨d, v, h1, h2, h3⟩
      · rw [h1] at f
        exact f.elim
      · rw [h1] at f
        exact ⟨a, v, rfl, .inl ⟨kvs, k, hs, ey, h2.symm⟩, fin_ok f rel h3⟩
  | none => rw [qd] at f; exact f.elim
theorem d2_din {n : Bool} : D2 X W (fun y x H Q => ∃ a o, x = .ref a ∧ DGet H a y o ∧ Q (.bl (if n then !o.isSome else o.isSome)) H) (fun b a s => if n then hDNotIn b a s else hDIn b a s) := fun P ex s σ H y x dy dx Q rel hy hx f => by
  cases dx with
  | dic ks =>
    cases e : keyD dy with
    | none =>
      cases n <;> simp [hDIn, hDNotIn, e] at f <;> exact f.elim
    | some k =>
      obtain ⟨a, kvs, rfl, hs, he, rs⟩ := hx
      have ey := key_vw hy e
      refine ⟨a, valV kvs k, rfl, .inl ⟨kvs, k, hs, ey, rfl⟩, ?_⟩
      have hv : (valV kvs k).isSome = (valD ks k).isSome := by
        rcases val_rp k he rs with ⟨h1, h2⟩ | ⟨d, v, h1, h2, h3⟩
        · rw [h1, h2]
          rfl
        · rw [h1, h2]
          rfl
      rw [hv]
      cases n with
      | true =>
        simp only [hDNotIn, e, if_true] at f
        exact fin_ok f rel (Rp.bl _)
      | false =>
        simp [hDIn, e] at f
        exact fin_ok f rel (Rp.bl _)
  | _ => cases n <;> simp [hDIn, hDNotIn] at f <;> exact f.elim
theorem de_dget {o i : Expr} {pos : Pos} {ga gb : DSt → Out (Nat ⊕ Dat)} (hu : X.A.units + 1 < cLine) (ho : DH X W o ga) (hi : DH X W i gb) (hs : NoSl i) : DE X W (.Subscript o i pos) (gOp hDGet ga gb) :=
  PE.imp (pe_dget hu ho hi hs) fun σ H Q t => top_read (K := X.K) (P := 0) (ex := []) d2_dget t
theorem de_din {o i : Expr} {pos : Pos} {ga gb : DSt → Out (Nat ⊕ Dat)} (hu : X.A.units + 1 < cLine) (hi : DH X W i ga) (ho : DH X W o gb) (h1 : behindInMarks .In o = false := by rfl) : DE X W (.Compare i [.In] [o] pos) (gOp hDIn ga gb) :=
  PE.imp (pe_cmp (pc_din hu hi ho) h1) fun σ H Q t => top_read (K := X.K) (P := 0) (ex := []) (d2_din (n := false)) t
theorem dt_dnotin {o i : Expr} {pos : Pos} {ga gb : DSt → Out (Nat ⊕ Dat)} (hu : X.A.units + 1 < cLine) (hi : DH X W i ga) (ho : DH X W o gb) (h1 : behindInMarks .NotIn o = false := by rfl) : DT X W (.Compare i [.NotIn] [o] pos) (gB (gOp hDNotIn ga gb)) :=
  PT.imp (pt_cmp (pc_dnotin hu hi ho) h1) fun σ H Q t => tb_read (fun Q' t' => top_read (K := X.K) (P := 0) (ex := []) (d2_din (n := true)) t') t
def hTuple : Dat → DSt → Out Dat := fun d s => match d with
  | .lst xs => .ok (.tup xs) s
  | .tup xs => .ok (.tup xs) s
  | _ => .no
theorem d1_tuple : D1 X W (fun x H Q => ∃ p ys, [x] = [V.ref p] ∧ ((SqL X.K H p ys ∧ ∀ l, H l = none → Q (.ref l) (upd H l (.tup ys))) ∨ (SqT X.K H p ys ∧ Q (.ref p) H))) hTuple := fun P ex s σ H x dx Q rel hx f => by
  cases dx with
  | lst xs =>
    obtain ⟨a, vs, rfl, hs, rs⟩ := hx
    exact ⟨a, vs, rfl, .inl ⟨.of hs, fun l n => fin_new f rel n fun m k => .tup (.inl ⟨m, .inl upd_same⟩) (rs.kp k)⟩⟩
  | tup xs =>
    have hx : Rp X.K P (OO P ex s σ) H x (.tup xs) := hx
    cases hx with
    | @tup a vs _ hs rs => exact ⟨a, vs, rfl, .inr ⟨hs.sq, fin_ok f rel (Rp.tup hs rs)⟩⟩
  | _ => exact f.elim
def hStr : Dat → DSt → Out Dat := fun d s => match d with
  | .str x => .ok (.str x) s
  | _ => .no
theorem d1_str : D1 X W (fun x H Q => ∃ a, [x] = [V.str a] ∧ Q (.str a) H) hStr := fun P ex s σ H x dx Q rel hx f => by
  cases dx with
  | str z =>
    cases (show Rp X.K P (OO P ex s σ) H x (.str z) from hx)
    exact ⟨z, rfl, fin_ok f rel (Rp.str _)⟩
  | _ => exact f.elim
end
end BD
namespace BD
open PySem PySem.Spec PyProof.Rows L2
def insS (x : Str) : List Str → List Str
  | [] => [x]
  | y :: r => if y.cps.toList < x.cps.toList then y :: insS x r else x :: y :: r
def sortS : List Str → List Str
  | [] => []
  | x :: r => insS x (sortS r)
theorem insS_perm (x : Str) : ∀ l, (insS x l).Perm (x :: l)
  | [] => .refl _
  | y :: r => by
    unfold insS
    split
    · exact ((insS_perm x r).cons y).trans (.swap x y r)
    · exact .refl _
theorem sortS_perm : ∀ l, (sortS l).Perm l
  | [] => .refl _
  | x :: r => (insS_perm x _).trans ((sortS_perm r).cons x)
def Up (a b : Str) : Prop := ¬ b.cps.toList < a.cps.toList
theorem Up.trans {a b c : Str} (h : Up a b) (k : Up b c) : Up a c := fun z => by
  have h : a.cps.toList ≤ b.cps.toList := h
  have k : b.cps.toList ≤ c.cps.toList := k
  exact (List.le_trans h k) z
theorem insS_up (x : Str) : ∀ {l : List Str}, l.Pairwise Up → (insS x l).Pairwise Up
  | [], _ => by simp [insS]
  | y :: r, h => by
    rw [List.pairwise_cons] at h
    unfold insS
    split
    · rename_i q
      rw [List.pairwise_cons]
      refine ⟨fun z hz => ?_, insS_up x h.2⟩
      rcases List.mem_cons.mp ((insS_perm x r).mem_iff.mp hz) with rfl | hz
      · exact fun w => List.lt_irrefl _ (List.lt_trans q w)
      · exact h.1 z hz
    · rename_i q
      rw [List.pairwise_cons, List.pairwise_cons]
      refine ⟨fun z hz => ?_, h⟩
      rcases List.mem_cons.mp hz with rfl | hz
      · exact q
      · exact Up.trans (b := y) q (h.1 z hz)
theorem sortS_up : ∀ l, (sortS l).Pairwise Up
  | [] => .nil
  | x :: r => insS_up x (sortS_up r)
theorem rising_up : ∀ (p : Str) (l : List Str), risingS p l = true → (p :: l).Pairwise Up
  | p, [], _ => by simp
  | p, x :: r, h => by
    unfold risingS at h
    rw [Bool.and_eq_true, ltCps_eq] at h
    have q : Up p x := of_decide_eq_false (by simpa only [Bool.not_eq_true'] using h.1)
    have t := rising_up x r h.2
    rw [List.pairwise_cons]
    refine ⟨fun z hz => ?_, t⟩
    rcases List.mem_cons.mp hz with rfl | hz
    · exact q
    · exact q.trans ((List.pairwise_cons.mp t).1 z hz)
theorem sorted_up {l : List Str} (h : sortedS l = true) : l.Pairwise Up := by
  cases l with
  | nil => exact .nil
  | cons x r => exact rising_up x r h
theorem up_anti {a b : Str} (h : Up a b) (k : Up b a) : a = b := by
  have e : a.cps.toList = b.cps.toList := List.le_antisymm h k
  obtain ⟨⟨x⟩⟩ := a
  obtain ⟨⟨y⟩⟩ := b
  have e : x = y := e
  rw [e]
theorem sortS_of {xs ys : List Str} (p : ys.Perm xs) (h : sortedS ys = true) : ys = sortS xs :=
  List.Perm.eq_of_pairwise (fun _ _ _ _ a b => up_anti a b) (sorted_up h) (sortS_up xs) (p.trans (sortS_perm xs).symm)
def strsOf : List Dat → Option (List Str)
  | [] => some []
  | .str x :: r => (strsOf r).map (x :: ·)
  | _ => none
theorem strsOf_rps {K : PySem.W.Frag} {P : Addr} {O : List Addr} {H : Hp} : ∀ {vs : List V} {ds : List Dat} {xs : List Str}, strsOf ds = some xs → Rps K P O H vs ds → vs = xs.map V.str
  | _, [], _, e, .nil => by
    cases e
    rfl
  | _, .str x :: r, xs, e, .cons h t => by
    unfold strsOf at e
    cases q : strsOf r with
    | none => rw [q] at e; cases e
    | some ys =>
      rw [q] at e
      cases e
      cases h
      rw [strsOf_rps q t]
      rfl
theorem rps_strs {K : PySem.W.Frag} {P : Addr} {O : List Addr} {H : Hp} : ∀ xs : List Str, Rps K P O H (xs.map V.str) (xs.map Dat.str)
  | [] => .nil
  | x :: r => .cons (.str x) (rps_strs r)
def hSorted : Dat → DSt → Out Dat := fun d s => match d with
  | .lst xs => match strsOf xs with
    | some ss => if ss.length < 64 then .ok (.lst ((sortS ss).map .str)) s else .no
    | none => .no
  | _ => .no
section
variable {X : Cx} {W : WX}
theorem d1_sorted : D1 X W (fun x H Q => rSortedS X.K [x] H Q) hSorted := fun P ex s σ H x dx Q rel hx f => by
  cases dx with
  | lst xs =>
    obtain ⟨a, vs, rfl, hs, rs⟩ := hx
    have f : Fin X.K P ex (RP X.K) W σ s H Q (match strsOf xs with | some ss => if ss.length < 64 then .ok (.lst ((sortS ss).map .str)) s else .no | none => .no) := f
    cases e : strsOf xs with
    | none => rw [e] at f; exact f.elim
    | some ss =>
      rw [e] at f
      obtain ⟨h1, f1⟩ := Fin.if f
      have ev := strsOf_rps e rs
      subst ev
      refine ⟨a, ss, rfl, .of hs, h1, fun ys p hp hy n => ?_⟩
      rw [sortS_of hp hy]
      exact fin_new f1 rel n fun m k => .lst ⟨m, upd_same⟩ (rps_strs _)
  | _ => exact f.elim
def hJoin : Dat → Dat → DSt → Out Dat := fun a b s => match a with
  | .str z => match b with
    | .lst xs => match strsOf xs with
      | some ss => if (ss.map (·.length)).sum + ss.length * z.length ≤ 16777216 then .ok (.str (Txt.join z ss)) s else .no
      | none => .no
    | .tup xs => match strsOf xs with
      | some ss => if (ss.map (·.length)).sum + ss.length * z.length ≤ 16777216 then .ok (.str (Txt.join z ss)) s else .no
      | none => .no
    | _ => .no
  | _ => .no
theorem de_join {o e : Expr} {apos pos : Pos} {go : DSt → Out Dat} {ge : DSt → Out (Nat ⊕ Dat)} (ho : DE X W o go) (he : DH X W e ge) (hs : starEach [e] X.env = [(false, eval e X.env)] := by rfl) (hbase : attributeBase o "join" X.env (eval o X.env) = eval o X.env := by rfl) (hline : (apos.endLine == pos.line) = true := by rfl) :
    DE X W (.Call (.Attribute o "join" apos) [e] [] pos) (fun s => (go s).bind fun a s1 => match a with | .str z => gUn (hJoin (.str z)) ge s1 | _ => .no) := PE.imp (pe_join ho he hs hbase hline) fun σ H Q ⟨P, ex, s, rel, f⟩ => by
  refine tG_seq rel f fun a s1 H1 x st rx f1 => ?_
  have rx : Rp X.K P (OO P ex s1 σ) H1 x a := rx
  cases rx with
  | str z =>
    refine ⟨⟨z, rfl⟩, ?_⟩
    have f1 : Fin X.K P ex (RP X.K) W σ s1 H1 Q (gUn (hJoin (.str z)) ge s1) := f1
    unfold gUn at f1
    refine tG_seq st.rel f1 fun hy s2 H2 y st2 ry f2 => ?_
    cases e1 : look s2 hy with
    | none => rw [e1] at f2; exact f2.elim
    | some dy =>
      rw [e1] at f2
      have vy := look_vw st2.rel ry e1
      cases dy with
      | lst xs =>
        obtain ⟨a, vs, rfl, hs, rs⟩ := vy
        have f2 : Fin X.K P ex (RP X.K) W σ s2 H2 Q (match strsOf xs with | some ss => if (ss.map (·.length)).sum + ss.length * z.length ≤ 16777216 then .ok (.str (Txt.join z ss)) s2 else .no | none => .no) := f2
        cases e : strsOf xs with
        | none => rw [e] at f2; exact f2.elim
        | some ss =>
          rw [e] at f2
          obtain ⟨h1, f3⟩ := Fin.if f2
          have ev := strsOf_rps e rs
          subst ev
          exact ⟨z, a, ss, rfl, rfl, .inl (.of hs), h1, fin_ok f3 st2.rel (Rp.str _)⟩
      | tup xs =>
        have vy : Rp X.K P (OO P ex s2 σ) H2 y (.tup xs) := vy
        cases vy with
        | @tup a vs _ hs rs =>
          have f2 : Fin X.K P ex (RP X.K) W σ s2 H2 Q (match strsOf xs with | some ss => if (ss.map (·.length)).sum + ss.length * z.length ≤ 16777216 then .ok (.str (Txt.join z ss)) s2 else .no | none => .no) := f2
          cases e : strsOf xs with
          | none => rw [e] at f2; exact f2.elim
          | some ss =>
            rw [e] at f2
            obtain ⟨h1, f3⟩ := Fin.if f2
            have ev := strsOf_rps e rs
            subst ev
            exact ⟨z, a, ss, rfl, rfl, .inr hs.sq, h1, fin_ok f3 st2.rel (Rp.str _)⟩
      | _ => exact f2.elim
  | _ => exact f1.elim
end
end BD
namespace BD
open PySem PySem.Spec PyProof.Rows L2
/-- what isinstance asks of an own class -/
structure InsK (K : PySem.W.Frag) (C : Addr) : Prop where
  cl : Cls K C
  ha : PySem.W.findIn K (.ref C) "__class__" = some (some (.builtin "object.__class__"))
  hn : PySem.W.specialIn K (.builtin "object.__class__") "__get__" = some (some (.builtin "getset_descriptor.__get__"))
  tk : PySem.W.takesIn K (.builtin "object.__class__") = some true
  hm : PySem.W.mroIn K C (.type "object") = some true
def tyD : Dat → Value
  | .non => .type "NoneType"
  | .bl _ => .type "bool"
  | .int _ => .type "int"
  | .str _ => .type "str"
  | .lst _ => .type "list"
  | .tup _ => .type "tuple"
  | .dic _ => .type "dict"
  | .ins C _ => .ref C
  | .pen => .type "list"
  | .bor _ => .type "dict"
/-- the answers of isinstance(_, u), as far as they are told -/
def KitOk (K : PySem.W.Frag) (u : Value) (kit : Value → Option Bool) : Prop := ∀ t b, kit t = some b → PySem.W.kitOne K t u = some b ∧ ∀ C, t = .ref C → InsK K C
def hIsi (kit : Value → Option Bool) : Dat → DSt → Out Dat := fun d s => match d with
  | .pen => .no
  | d => match kit (tyD d) with
    | some b => .ok (.bl b) s
    | none => .no
section
variable {X : Cx} {W : WX}
theorem vw_ty {K : PySem.W.Frag} {P : Addr} {O : List Addr} {H : Hp} {x : V} {d : Dat} (h : Vw K P O H x d) (hp : d ≠ .pen) (hc : ∀ C, tyD d = .ref C → InsK K C) : TyX K H x (tyD d) := by
  cases d with
  | non => cases (show Rp K P O H x .non from h); exact .base .non
  | bl b => cases (show Rp K P O H x (.bl b) from h); exact .base (.bl b)
  | int b => cases (show Rp K P O H x (.int b) from h); exact .base (.int b)
  | str b => cases (show Rp K P O H x (.str b) from h); exact .base (.str b)
  | lst xs => obtain ⟨a, vs, rfl, e, _⟩ := h; exact .base (.lst e)
  | tup xs =>
    have h : Rp K P O H x (.tup xs) := h
    cases h with
    | @tup a vs _ hs rs =>
      rcases hs with ⟨_, e | ⟨o, e⟩⟩ | ⟨o, its, n, e, c, _⟩
      · exact .base (.tup e)
      · exact .fTuple e
      · exact .kTuple e c
  | dic ks =>
    obtain ⟨a, kvs, rfl, e | ⟨o, e⟩, _⟩ := h
    · exact .base (.dK e)
    · exact .fDict e
  | ins C fs =>
    obtain ⟨a, dx, vfs, rfl, e, _⟩ := h
    obtain ⟨k1, k2, k3, k4, k5⟩ := hc C rfl
    exact .base (.ins e k1 k2 k3 k4 k5)
  | pen => exact (hp rfl).elim
  | bor ks =>
    obtain ⟨a, kvs, rfl, ⟨o, e⟩, _⟩ := h
    exact .fDict e
theorem de_isi {e c : Expr} {p pos : Pos} {cv : V} {u : Value} {kit : Value → Option Bool} {ge : DSt → Out (Nat ⊕ Dat)} (hk : KitOk X.K u kit) (hcv : ClsV cv u) (hm : X.mg "isinstance" = none) (hg : Gl X "isinstance") (he : DH X W e ge) (hc : PE X c (tC cv))
    (h1 : starEach [e, c] X.env = (false, eval e X.env) :: starEach [c] X.env := by rfl) (h2 : starEach [c] X.env = (false, eval c X.env) :: starEach [] X.env := by rfl) (hpl : (backTo pos (starEach [c] X.env)).any (·.1) = false := by rfl) :
    DE X W (.Call (.Name "isinstance" p) [e, c] [] pos) (gUn (hIsi kit) ge) := PE.imp (pe_callB call_isi hg hm (by decide +kernel) (pa_cons he (pa_cons hc pa_nil h2) h1) (by decide) (by decide) h1 hpl) fun σ H Q ⟨P, ex, s, rel, f⟩ => by
  unfold gUn at f
  refine tG_seq rel f fun hx s1 H1 x st rx f1 => ?_
  cases e1 : look s1 hx with
  | none => rw [e1] at f1; exact f1.elim
  | some d =>
    rw [e1] at f1
    have v := look_vw st.rel rx e1
    by_cases hp : d = .pen
    · subst hp
      exact f1.elim
    · have f1 : Fin X.K P ex (RP X.K) W σ s1 H1 Q (match kit (tyD d) with | some b => .ok (.bl b) s1 | none => .no) := by
        cases d <;> first | exact f1 | exact (hp rfl).elim
      cases q : kit (tyD d) with
      | none => rw [q] at f1; exact f1.elim
      | some b =>
        rw [q] at f1
        obtain ⟨k1, k2⟩ := hk _ _ q
        exact ⟨x, cv, tyD d, u, b, rfl, hcv, vw_ty v hp k2, k1, fin_ok f1 st.rel (Rp.bl b)⟩
theorem slot_ol {K : PySem.W.Frag} {P : Addr} {ex : List Addr} {s : DSt} {σ : St} {H : Hp} {i : Nat} {xs : List Dat} (rel : Rel K P ex s σ H) (e : s.env[i]? = some (.ol xs)) : ∃ a vs, σ[i]? = some (some (.ref a)) ∧ H a = some (.lst vs) ∧ Rps K P (OO P ex s σ) H vs xs := by
  obtain ⟨u, e1, a, vs, rfl, h1, h2⟩ := rel.slot e
  exact ⟨a, vs, e1, h1, h2⟩
end
end BD
namespace BD
open PySem PySem.Spec PyProof.Rows L2
def isOl (s : DSt) (i : Nat) : Bool := match s.env[i]? with
  | some (.ol _) => true
  | _ => false
def isOd (s : DSt) (i : Nat) : Bool := match s.env[i]? with
  | some (.od _) => true
  | _ => false
def popAt (i : Nat) (d : Dat) (s1 : DSt) : Out Dat := match s1.env[i]? with
  | some (.ol xs) => (match d with
    | .int k => if 0 ≤ k ∧ k < xs.length ∧ k < 1000000 then (match xs[k.toNat]? with | some y => .ok y { s1 with env := s1.env.set i (.ol (xs.eraseIdx k.toNat)) } | none => .no) else .no
    | _ => .no)
  | _ => .no
def gPopAt (i : Nat) (g : DSt → Out Dat) : DSt → Out Dat := fun s => if isOl s i = true then (g s).bind (popAt i) else .no
section
variable {X : Cx} {W : WX}
theorem isOl_get {s : DSt} {i : Nat} (h : isOl s i = true) : ∃ xs, s.env[i]? = some (.ol xs) := by
  unfold isOl at h
  split at h
  · rename_i xs e
    exact ⟨xs, e⟩
  · cases h
theorem isOd_get {s : DSt} {i : Nat} (h : isOd s i = true) : ∃ xs, s.env[i]? = some (.od xs) := by
  unfold isOd at h
  split at h
  · rename_i xs e
    exact ⟨xs, e⟩
  · cases h
/-- a step and its value -/
theorem fin_step {K : PySem.W.Frag} {P : Addr} {ex : List Addr} {s s' : DSt} {σ : St} {H H' : Hp} {Q : V → Hp → Prop} {a : Dat} {b : V} (f : Fin K P ex (RP K) W σ s H Q (.ok a s')) (st : Step K P ex σ s H σ s' H') (r : Rp K P (OO P ex s' σ) H' b a) : Q b H' := f H' b st r
theorem de_popAt {o e : Expr} {i : Nat} {apos cpos : Pos} {g : DSt → Out Dat} (ho : PE X o (tVar i)) (he : DE X W e g) (hbase : attributeBase o "pop" X.env (eval o X.env) = eval o X.env := by rfl)
    (hfew : ((backTo cpos (starEach (e :: []) X.env)).all (fun x => !x.1) && (backToKw cpos (keywordEach [] X.env)).all (fun x => x.1.isSome)
      && decide ((e :: ([] : List Expr)).length + ([] : List Keyword).length + (if ([] : List Keyword).isEmpty then 0 else 1) < 30)) = true := by rfl)
    (hline : (apos.endLine == cpos.line) = true := by rfl) (hs : starEach (e :: []) X.env = (false, eval e X.env) :: starEach [] X.env := by rfl) (hplain : (backTo cpos (starEach [] X.env)).any (·.1) = false := by rfl) :
    DE X W (.Call (.Attribute o "pop" apos) [e] [] cpos) (gPopAt i g) :=
  PE.imp (pe_bm PySem.F.plainAttrs_list PySem.F.slot_list_pop PySem.F.type_list_pop mt_popAt ho (pa_cons he pa_nil hs) hbase hfew hline hs hplain) fun σ H Q ⟨P, ex, s, rel, f⟩ => by
  unfold gPopAt at f
  obtain ⟨h0, f⟩ := Fin.if f
  obtain ⟨xs0, e0⟩ := isOl_get h0
  obtain ⟨a, vs0, es, ho0, _⟩ := slot_ol rel e0
  refine ⟨.ref a, es, .inl ⟨rfl, vs0, .of ho0⟩, ?_⟩
  refine tG_seq rel f fun d s1 H1 y st ry f1 => ?_
  unfold popAt at f1
  cases q : s1.env[i]? with
  | none => rw [q] at f1; exact f1.elim
  | some w =>
    rw [q] at f1
    cases w with
    | ol xs =>
      dsimp only at f1
      have ry : Rp X.K P (OO P ex s1 σ) H1 y d := ry
      cases ry with
      | int k =>
        obtain ⟨⟨h1, h2, h3⟩, f2⟩ := Fin.if f1
        obtain ⟨a', vs, es', hl, rs⟩ := slot_ol st.rel q
        rw [es] at es'
        cases es'
        cases q2 : xs[k.toNat]? with
        | none => rw [q2] at f2; exact f2.elim
        | some yd =>
          rw [q2] at f2
          obtain ⟨v, ev, rv⟩ := rs.get q2
          have hk : k.toNat < vs.length := (List.getElem?_eq_some_iff.mp ev).1
          refine ⟨a, vs, k, k.toNat, v, rfl, rfl, hl, by omega, by omega, ?_, ev, ?_⟩
          · unfold seqIndex?
            simp
            omega
          · have st2 : Step X.K P ex σ s1 H1 σ { s1 with env := s1.env.set i (.ol (xs.eraseIdx k.toNat)) } (L2.upd H1 a (.lst (vs.eraseIdx k.toNat))) := Step.mut st.rel q es rfl rfl fun kp => ⟨a, _, rfl, upd_same, (rs.eraseIdx _).kp kp⟩
            exact fin_step f2 st2 (rv.step st2)
      | _ => exact f1.elim
    | _ => exact f1.elim
end
end BD
namespace BD
open PySem PySem.Spec PyProof.Rows L2
def putD (ks : List (Key × Dat)) (k : Key) (v : Dat) : List (Key × Dat) :=
  if (ks.any fun kv => decide (kv.1 = k)) = true then ks.map (fun kv => if kv.1 = k then (kv.1, v) else kv) else ks ++ [(k, v)]
def dropD (ks : List (Key × Dat)) (k : Key) : List (Key × Dat) := ks.filter fun kv => !decide (kv.1 = k)
section
variable {K : PySem.W.Frag} {P : Addr} {O : List Addr} {H : Hp}
theorem any_keys (k : Key) : ∀ {kvs : List (Key × V)} {ks : List (Key × Dat)}, kvs.map (·.1) = ks.map (·.1) → (kvs.any fun kv => decide (kv.1 = k)) = ks.any fun kv => decide (kv.1 = k)
  | [], [], _ => rfl
  | (k1, _) :: kvs, (k2, _) :: ks, e => by
    simp only [List.map_cons, List.cons.injEq] at e
    obtain ⟨e1, e2⟩ := e
    have e1 : k1 = k2 := e1
    subst e1
    simp only [List.any_cons, any_keys k e2]
  | [], _ :: _, e => by cases e
  | _ :: _, [], e => by cases e
theorem map_put {k : Key} {v : V} {d : Dat} (r : Rp K P O H v d) : ∀ {kvs : List (Key × V)} {ks : List (Key × Dat)}, kvs.map (·.1) = ks.map (·.1) → Rps K P O H (kvs.map (·.2)) (ks.map (·.2)) →
    (kvs.map fun kv => if kv.1 = k then (kv.1, v) else kv).map (·.1) = (ks.map fun kv => if kv.1 = k then (kv.1, d) else kv).map (·.1) ∧ Rps K P O H ((kvs.map fun kv => if kv.1 = k then (kv.1, v) else kv).map (·.2)) ((ks.map fun kv => if kv.1 = k then (kv.1, d) else kv).map (·.2))
  | [], [], _, _ => ⟨rfl, .nil⟩
  | (k1, v1) :: kvs, (k2, d1) :: ks, e, r1 => by
    simp only [List.map_cons, List.cons.injEq] at e
    obtain ⟨e1, e2⟩ := e
    have e1 : k1 = k2 := e1
    subst e1
    cases r1 with
    | cons h t =>
      obtain ⟨q1, q2⟩ := map_put (k := k) r e2 t
      by_cases z : k1 = k
      · simp only [List.map_cons, if_pos z]
        exact ⟨by rw [q1], .cons r q2⟩
      · simp only [List.map_cons, if_neg z]
        exact ⟨by rw [q1], .cons h q2⟩
  | [], _ :: _, e, _ => by cases e
  | _ :: _, [], e, _ => by cases e
theorem put_rp {k : Key} {v : V} {d : Dat} {kvs : List (Key × V)} {ks : List (Key × Dat)} (r : Rp K P O H v d) (e : kvs.map (·.1) = ks.map (·.1)) (rs : Rps K P O H (kvs.map (·.2)) (ks.map (·.2))) :
    (putK kvs k v).map (·.1) = (putD ks k d).map (·.1) ∧ Rps K P O H ((putK kvs k v).map (·.2)) ((putD ks k d).map (·.2)) := by
  unfold putK putD
  rw [any_keys k e]
  split
  · exact map_put r e rs
  · simp only [List.map_append, e]
    exact ⟨rfl, rs.append (.cons r .nil)⟩
theorem slot_od {ex : List Addr} {s : DSt} {σ : St} {i : Nat} {ks : List (Key × Dat)} (rel : Rel K P ex s σ H) (e : s.env[i]? = some (.od ks)) : ∃ a kvs, σ[i]? = some (some (.ref a)) ∧ H a = some (.dK kvs) ∧ kvs.map (·.1) = ks.map (·.1) ∧ Rps K P (OO P ex s σ) H (kvs.map (·.2)) (ks.map (·.2)) := by
  obtain ⟨u, e1, a, vs, rfl, h1, h2, h3⟩ := rel.slot e
  exact ⟨a, vs, e1, h1, h2, h3⟩
end
def dput (i : Nat) (v k : Dat) (s2 : DSt) : OutS := match s2.env[i]? with
  | some (.od ks) => (match keyD k with
    | some key => if ks.length < sizeLine then .nx { s2 with env := s2.env.set i (.od (putD ks key v)) } else .no
    | none => .no)
  | _ => .no
def gDPut (i : Nat) (gk gv : DSt → Out Dat) : DSt → OutS := fun s => (gv s).bindS fun v s1 => if isOd s1 i = true then (gk s1).bindS (dput i v) else .no
def gNd0 : DSt → Out DV := fun s => .ok (.od []) s
section
variable {X : Cx} {W : WX}
theorem FinS.if {K : PySem.W.Frag} {P : Addr} {ex : List Addr} {s : DSt} {σ : St} {H : Hp} {D : Ends} {c : Prop} [Decidable c] {o : OutS} (f : FinS K P ex W σ s H D (if c then o else .no)) : c ∧ FinS K P ex W σ s H D o := by
  by_cases h : c
  · rw [if_pos h] at f
    exact ⟨h, f⟩
  · rw [if_neg h] at f
    exact f.elim
theorem ds_dput {o i value : Expr} {j : Nat} {pos pos' : Pos} {gk gv : DSt → Out Dat} (hu : X.A.units + 1 < cLine) (ho : PE X o (tVar j)) (hi : DE X W i gk) (hv : DE X W value gv) (hs : swapsWith value (some (.Subscript o i pos')) pos.line X.env = pure false := by rfl) :
    DS X W (.Assign [.Subscript o i pos'] value pos) (gDPut j gk gv) := PS.imp (ps_dput hu ho hi hv hs) fun D σ H ⟨P, ex, s, rel, f⟩ => by
  unfold gDPut at f
  refine tG_seqS rel f fun d s1 H1 v st rv f1 => ?_
  obtain ⟨h0, f1⟩ := FinS.if f1
  obtain ⟨ks0, e0⟩ := isOd_get h0
  obtain ⟨a, kvs0, es, _⟩ := slot_od st.rel e0
  refine ⟨.ref a, es, ?_⟩
  refine tG_seqS st.rel f1 fun dk s2 H2 y st2 ry f2 => ?_
  unfold dput at f2
  cases q : s2.env[j]? with
  | none => rw [q] at f2; exact f2.elim
  | some w =>
    rw [q] at f2
    cases w with
    | od ks =>
      dsimp only at f2
      cases q2 : keyD dk with
      | none => rw [q2] at f2; exact f2.elim
      | some key =>
        rw [q2] at f2
        obtain ⟨h1, f3⟩ := FinS.if f2
        obtain ⟨a', kvs, es', hl, he, rs⟩ := slot_od st2.rel q
        rw [es] at es'
        cases es'
        have ey := key_vw (Rp.vw ry) q2
        have hlen : kvs.length = ks.length := by simpa using congrArg List.length he
        refine ⟨a, _, rfl, .inl ⟨kvs, key, hl, ey, by rw [hlen]; exact h1, rfl⟩, ?_⟩
        have rv2 : Rp X.K P (OO P ex s2 σ) H2 v d := Rp.step rv st2
        obtain ⟨p1, p2⟩ := put_rp (k := key) rv2 he rs
        exact f3 _ _ (Step.mut st2.rel q es rfl rfl fun kp => ⟨a, _, rfl, upd_same, p1, p2.kp kp⟩)
    | _ => exact f2.elim
theorem dn_dict0 {pos : Pos} : DN X W (.Dict [] [] pos) gNd0 := PE.imp pe_dnewK fun σ H Q ⟨P, ex, s, rel, f⟩ => by
  intro p n
  exact f _ _ (.pushO rel n rfl fun O k => ⟨p, [], rfl, upd_same, rfl, .nil⟩)
end
end BD
namespace BD
open PySem PySem.Spec PyProof.Rows L2
section
variable {K : PySem.W.Frag} {P : Addr} {ex : List Addr} {s : DSt} {σ : St} {H H' : Hp} {v : V} {x : Dat} {env1 : List DV} {p : Pen}
theorem Step.pop (st : Step K P ex σ s H (σ ++ [some v]) ⟨env1 ++ [.d x], p⟩ H') : Step K P ex σ s H σ ⟨env1, p⟩ H' ∧ Rp K P (OO P ex ⟨env1, p⟩ σ) H' v x := by
  obtain ⟨hl, r⟩ := st.rel.unpush
  have z : own1 (.d x) (some v) = [] := by simp [own1, DV.isO]
  rw [z, List.nil_append] at r
  have eo : owns (env1 ++ [.d x]) (σ ++ [some v]) = owns env1 σ := by
    rw [owns_append hl]
    simp [owns, z]
  have eO : OO P ex ⟨env1 ++ [.d x], p⟩ (σ ++ [some v]) = OO P ex ⟨env1, p⟩ σ := by
    show P :: (ex ++ owns (env1 ++ [.d x]) (σ ++ [some v])) = _
    rw [eo]
    rfl
  refine ⟨⟨r, st.keep, st.exk, fun b hb => st.own b (by rw [eo]; exact hb)⟩, ?_⟩
  obtain ⟨_, q⟩ := Paired.split hl st.rel.sl
  cases q with
  | cons h _ =>
    obtain ⟨v', e, h⟩ := h
    cases e
    rw [eO] at h
    exact h
end
def gPl (g : DSt → Out DV) : DSt → Out Dat := fun s => (g s).bind fun dv s1 => match dv with
  | .d x => .ok x s1
  | .ol xs => .ok (.lst xs) s1
  | .od ks => .ok (.dic ks) s1
  | .oi _ C fs => .ok (.ins C fs) s1
  | .no => .no
section
variable {X : Cx} {W : WX}
theorem de_pl {e : Expr} {g : DSt → Out DV} (h : DN X W e g) : DE X W e (gPl g) := ⟨fun pins s0 σ H Q I ⟨P, ex, s, rel, f⟩ => by
  unfold gPl at f
  have key : tN X.K W g σ H (fun v H' => Q v H' ∨ ∃ a u, v = .ref a ∧ H' a = some u ∧ Mut (some u) ∧ ∀ od, Q v (upd H' a (.frz od u))) := by
    refine ⟨P, ex, s, rel, ?_⟩
    cases q : g s with
    | no => rw [q] at f; exact f
    | ex C fs p => rw [q] at f; exact f
    | ok dv s1 =>
      rw [q] at f
      intro H' v st
      have hl := (st.rel.unpush).1
      have hi : (s1.env ++ [dv])[s1.env.length]? = some dv := by simp
      have hsv : (σ ++ [some v])[s1.env.length]? = some (some v) := by rw [hl]; simp
      have hset : ∀ x : Dat, (s1.env ++ [dv]).set s1.env.length (.d x) = s1.env ++ [.d x] := fun x => by simp
      obtain ⟨u0, eu, ok⟩ := st.rel.slot (i := s1.env.length) (e := dv) hi
      rw [hsv] at eu
      cases eu
      have fin : ∀ (x : Dat) (H2 : Hp), (∀ b, b ∉ own1 dv (some v) → H2 b = H' b) → (∀ O', (∀ b ∈ O', b ∈ OO P ex { s1 with env := s1.env ++ [dv] } (σ ++ [some v])) → (∀ b ∈ own1 dv (some v), b ∉ O') → Kr (OO P ex { s1 with env := s1.env ++ [dv] } (σ ++ [some v])) O' H' H2 → Rp X.K P O' H2 v x) →
          Fin X.K P ex (RP X.K) W σ s H Q (.ok x s1) → Q v H2 := by
        intro x H2 hH hx hf
        have st2 := st.trans (Step.off st.rel hi hsv hH hx)
        have e0 : ({ s1 with env := (s1.env ++ [dv]).set s1.env.length (.d x) } : DSt) = { s1 with env := s1.env ++ [.d x] } := by rw [hset]
        have st3 : Step X.K P ex σ s H (σ ++ [some v]) ⟨s1.env ++ [.d x], s1.pen⟩ H2 := e0 ▸ st2
        obtain ⟨st4, r4⟩ := st3.pop
        exact hf H2 v st4 r4
      cases dv with
      | no => exact f.elim
      | d x =>
        obtain ⟨st4, r4⟩ := st.pop
        exact .inl (f H' v st4 r4)
      | ol xs =>
        obtain ⟨a, vs, e1, e2, r⟩ := ok
        cases e1
        exact .inl (fin _ H' (fun _ _ => rfl) (fun O' h1 h2 k => .lst ⟨h2 a (by simp [own1, DV.isO]), e2⟩ (r.kr k)) f)
      | od ks =>
        obtain ⟨a, kvs, e1, e2, e3, r⟩ := ok
        cases e1
        exact .inr ⟨a, _, rfl, e2, trivial, fun od => fin _ _ (fun b n => upd_ne fun z => n (by simp [own1, DV.isO, z])) (fun O' h1 h2 k => .dic (h2 a (by simp [own1, DV.isO])) ⟨od, upd_same⟩ e3 (r.kr k)) f⟩
      | oi a C fs =>
        obtain ⟨dx, vfs, e1, e2, e3, r⟩ := ok
        cases e1
        exact .inl (fin _ H' (fun _ _ => rfl) (fun O' h1 h2 k => .ins (h2 a (by simp [own1, DV.isO])) e2 e3 (r.kr k)) f)
  refine thn (h.run pins s0 σ H _ I key) fun u s1 ⟨v, H', I1, r, q⟩ => ?_
  rcases q with q | ⟨a, w, _, e, mu, q⟩
  · exact ⟨v, H', I1, r, q⟩
  · obtain ⟨od, I2⟩ := I1.lock e mu
    exact ⟨v, _, I2, r, q od⟩⟩
end
end BD
namespace BD
open PySem PySem.Spec PyProof.Rows L2
def DicR (K : PySem.W.Frag) (P : Addr) (O : List Addr) (H : Hp) (kvs : List (Key × V)) (ks : List (Key × Dat)) : Prop := kvs.map (·.1) = ks.map (·.1) ∧ Rps K P O H (kvs.map (·.2)) (ks.map (·.2))
theorem DicR.kr {K : PySem.W.Frag} {P : Addr} {O O' : List Addr} {H H' : Hp} {kvs : List (Key × V)} {ks : List (Key × Dat)} (r : DicR K P O H kvs ks) (k : Kr O O' H H') : DicR K P O' H' kvs ks := ⟨r.1, r.2.kr k⟩
def gDcL (vs : List Nat) (h : Dat → DSt → Option DSt) (t : DSt → Out Bool) (gk e : DSt → Out Dat) : List Dat → List (Key × Dat) → DSt → Out (List (Key × Dat))
  | [], acc, s => .ok acc s
  | d :: ds, acc, s => match h d s with
    | none => .no
    | some s1 => match t s1 with
      | .ok true s2 => match gk s2 with
        | .ok kd s3 => match keyD kd with
          | some key => match e s3 with
            | .ok y s4 => if acc.length < sizeLine ∧ plainAt vs s4.env = true then gDcL vs h t gk e ds (putD acc key y) { s4 with env := wipeE vs s4.env } else .no
            | _ => .no
          | none => .no
        | _ => .no
      | .ok false s2 => if plainAt vs s2.env = true then gDcL vs h t gk e ds acc { s2 with env := wipeE vs s2.env } else .no
      | _ => .no
def gDcA (vs : List Nat) (gi : DSt → Out (List Dat)) (h : Dat → DSt → Option DSt) (t : DSt → Out Bool) (gk e : DSt → Out Dat) : DSt → Out (List (Key × Dat)) := fun s => (gi s).bind fun items s1 => if plainAt vs s1.env = true then
    match gDcL vs h t gk e items [] { s1 with env := wipeE vs s1.env } with
    | .ok acc s2 => .ok acc { s2 with env := backE vs s1.env s2.env }
    | _ => .no
  else .no
def gNdc (vs : List Nat) (gi : DSt → Out (List Dat)) (h : Dat → DSt → Option DSt) (t : DSt → Out Bool) (gk e : DSt → Out Dat) : DSt → Out DV := fun s => (gDcA vs gi h t gk e s).bind fun acc s1 => .ok (.od acc) s1
structure DcEnd (K : PySem.W.Frag) (P : Addr) (ex : List Addr) (σ : St) (s : DSt) (H : Hp) (sF : DSt) (acc : List (Key × Dat)) (D : Addr) (H' : Hp) : Prop where
  step : Step K P ex σ s H σ sF H'
  rel : Rel K P (D :: ex) sF σ H'
  new : H D = none
  obj : ∃ accV, H' D = some (.dK accV) ∧ DicR K P (OO P (D :: ex) sF σ) H' accV acc
theorem Mid.doneD {K : PySem.W.Frag} {P D : Addr} {ex : List Addr} {s' s1 : DSt} {σ : St} {H' H1 : Hp} {vs : List Nat} {acc : List (Key × Dat)} {accV : List (Key × V)} (r1 : Rel K P ex s1 σ H1) (hp : plainAt vs s1.env = true) (n : H1 D = none) (m : Mid K P ex D σ vs s1 H1 s' H') (ho : H' D = some (.dK accV)) (hr : DicR K P (OO P (D :: ex) s' (wipe σ vs)) H' accV acc) :
    DcEnd K P ex σ s1 H1 { s' with env := backE vs s1.env s'.env } acc D H' := by
  obtain ⟨r, e⟩ := Rel.back r1 hp m.rel m.kr
  have eo : OO P (D :: ex) { s' with env := backE vs s1.env s'.env } σ = OO P (D :: ex) s' (wipe σ vs) := by
    show P :: ((D :: ex) ++ owns (backE vs s1.env s'.env) σ) = _
    rw [e]
    rfl
  exact ⟨⟨r.release, ⟨fun a na u ea => (m.kr.1 a na u ea).2, m.kr.2⟩, m.exk, fun a ha => m.own a (by rw [← e]; exact ha)⟩, r, n, accV, ho, by rw [eo]; exact hr⟩
theorem DcEnd.push {K : PySem.W.Frag} {P D : Addr} {ex : List Addr} {s sF : DSt} {σ : St} {H H' : Hp} {acc : List (Key × Dat)} (x : DcEnd K P ex σ s H sF acc D H') : Step K P ex σ s H (σ ++ [some (.ref D)]) { sF with env := sF.env ++ [.od acc] } H' := by
  obtain ⟨accV, ho, hr⟩ := x.obj
  have e1 : owns (sF.env ++ [.od acc]) (σ ++ [some (.ref D)]) = owns sF.env σ ++ [D] := by
    rw [owns_append x.rel.lens]
    simp [owns, own1, DV.isO]
  have perm : (OO P ex { sF with env := sF.env ++ [.od acc] } (σ ++ [some (.ref D)])).Perm (OO P (D :: ex) sF σ) := by
    show (P :: (ex ++ owns (sF.env ++ [.od acc]) (σ ++ [some (.ref D)]))).Perm (P :: ((D :: ex) ++ owns sF.env σ))
    rw [e1]
    refine List.Perm.cons _ (List.perm_iff_count.mpr fun a => ?_)
    simp only [List.count_append, List.count_cons, List.count_nil]
    omega
  have sub : ∀ b ∈ OO P ex { sF with env := sF.env ++ [.od acc] } (σ ++ [some (.ref D)]), b ∈ OO P (D :: ex) sF σ := fun b hb => perm.mem_iff.mp hb
  refine ⟨⟨perm.nodup_iff.mpr x.rel.nd, Paired.append (Paired.own x.rel.sl fun e' r' _ h => h.kr (.anti sub) fun _ _ => rfl) (.cons ⟨D, accV, rfl, ho, hr.1, hr.2.anti sub⟩ .nil), x.rel.pen.anti sub, fun a ha => x.rel.exs a (List.mem_cons_of_mem _ ha)⟩, x.step.keep, x.step.exk, fun b hb => ?_⟩
  have hb : b ∈ owns sF.env σ ++ [D] := by rw [← e1]; exact hb
  rcases List.mem_append.mp hb with z | z
  · exact x.step.own b z
  · exact .inr (by rw [show b = D by simpa using z]; exact x.new)
/-- a dict comprehension over a walk -/
theorem dc_it {J : It} {n : Nat} {G : Hp → Prop} {Y : Nat → Hp → V → Hp → Prop} (w : Walk J n G Y) {g : TG} {tt : TT} {tk tv : TE} {vs : List Nat} {σ : St} {H1 : Hp} {D : Addr} {Qd : Hp → Prop} (Pv : Nat → Hp → Prop) (h0 : Pv 0 (upd H1 D (.dK []))) (hG : ∀ i H, i ≤ n → Pv i H → G H)
    (hs : ∀ i x H H', i < n → Pv i H → Y i H x H' → g x (wipe σ vs) H' fun σ2 H2 => wipe σ2 vs = wipe σ vs ∧ tt σ2 H2 fun b H3 => if b = true then tk σ2 H3 fun y H4 => tv σ2 H4 fun z H5 => ∃ kvs k, y = kV k ∧ H5 D = some (.dK kvs) ∧ kvs.length < sizeLine ∧ Pv (i + 1) (upd H5 D (.dK (putK kvs k z))) else Pv (i + 1) H3) (hd : ∀ H, Pv n H → Qd H) :
    ∃ W : Nat → Nat → Hp → Prop, (∃ m, W 0 m (upd H1 D (.dK []))) ∧ ∀ i m H, W i m H → (J.stop i H ∧ Qd H) ∨ (J.go i H ∧ ∃ Nx : Hp → Prop, (∀ H', Nx H' → ∃ m', m' < m ∧ W (i + 1) m' H') ∧ ∀ x H', J.yld i H x H' → g x (wipe σ vs) H' fun σ2 H2 => wipe σ2 vs = wipe σ vs ∧ tt σ2 H2 fun b H3 =>
      if b = true then tk σ2 H3 fun y H4 => tv σ2 H4 fun z H5 => ∃ kvs k, y = kV k ∧ H5 D = some (.dK kvs) ∧ kvs.length < sizeLine ∧ Nx (upd H5 D (.dK (putK kvs k z))) else Nx H3) := by
  refine ⟨fun i m H => m = n - i ∧ i ≤ n ∧ Pv i H, ⟨n, by simp, Nat.zero_le _, h0⟩, ?_⟩
  rintro i m H ⟨rfl, hi, p⟩
  have q := hG i H hi p
  by_cases hlt : i < n
  · exact .inr ⟨w.goes i H hlt q, Pv (i + 1), fun H' p' => ⟨n - (i + 1), by omega, rfl, hlt, p'⟩, fun x H' y => hs i x H H' hlt p (w.yields i H x H' hlt q y)⟩
  · have e : i = n := by omega
    subst e
    exact .inl ⟨w.stops H q, hd H p⟩
theorem dc_read {K : PySem.W.Frag} {W : WX} {gi : DSt → Out (List Dat)} {t : TG} {h : Dat → DSt → Option DSt} {gt : DSt → Out Bool} {gk ge : DSt → Out Dat} {vs : List Nat} {σ : St} {H : Hp} {Q : VK} {P : Addr} {ex : List Addr} {s : DSt}
    (ht : ∀ P ex s σ H v d (Q : St → Hp → Prop), Rel K P ex s σ H → Rp K P (OO P ex s σ) H v d → (match h d s with | some s' => ∀ σ' H', Step K P ex σ s H σ' s' H' → wipe σ' vs = wipe σ vs → Q σ' H' | none => False) → t v σ H Q)
    (rel : Rel K P ex s σ H) (f : match gDcA vs gi h gt gk ge s with | .ok acc sF => ∀ H1 s1 D H', Step K P ex σ s H σ s1 H1 → DcEnd K P ex σ s1 H1 sF acc D H' → Q (.ref D) H' | .ex C fs p => ∀ H' od, XStep K P ex σ s H H' fs p od → W (.ref C) od σ H' | .no => False) :
    tDc (tI K W gi) t (tG K RB W0 gt) (tG K (RP K) W0 gk) (tG K (RP K) W0 ge) vs σ H Q := by
  refine ⟨P, ex, s, rel, ?_⟩
  unfold gDcA at f
  cases q : gi s with
  | no => rw [q] at f; exact f
  | ex C fs p => rw [q] at f; exact f
  | ok items s1 =>
    rw [q] at f
    dsimp only [Out.bind] at f
    by_cases hp : plainAt vs s1.env = true
    case neg => rw [if_neg hp] at f; exact f.elim
    rw [if_pos hp] at f
    cases qL : gDcL vs h gt gk ge items [] { s1 with env := wipeE vs s1.env } with
    | no => rw [qL] at f; exact f.elim
    | ex C fs p => rw [qL] at f; exact f.elim
    | ok accF sF =>
      rw [qL] at f
      intro J H1 st io D nD
      obtain ⟨G, Y, walk, hG, hY⟩ := io
      refine dc_it walk (fun i H' => ∃ s' acc accV, Mid K P ex D σ vs s1 H1 s' H' ∧ H' D = some (.dK accV) ∧ DicR K P (OO P (D :: ex) s' (wipe σ vs)) H' accV acc ∧ gDcL vs h gt gk ge (items.drop i) acc s' = .ok accF sF) ⟨_, [], [], Mid.start st.rel hp nD, upd_same, ⟨rfl, .nil⟩, qL⟩
        (fun i H' hi ⟨s', acc, accV, m, _⟩ => hG _ _ m.kr) (fun i x H' H'' hi ⟨s', acc, accV, m, ho, hr, e⟩ y => ?_) (fun H' ⟨s', acc, accV, m, ho, hr, e⟩ => ?_)
      · obtain ⟨d, e1, io⟩ := hY i _ H' x H'' hi m.kr y
        obtain ⟨x2, r2⟩ := iter_step m.rel io
        rw [List.drop_eq_getElem_cons hi, show items[i] = d from by
          have := List.getElem?_eq_getElem hi
          rw [e1] at this
          exact (Option.some.inj this).symm] at e
        refine ht P (D :: ex) s' (wipe σ vs) H'' x d _ x2.rel r2 ?_
        unfold gDcL at e
        cases q1 : h d s' with
        | none => rw [q1] at e; cases e
        | some s2 =>
          rw [q1] at e
          dsimp only at e
          intro σ2 H2 x3 hw
          rw [wipe_wipe] at hw
          refine ⟨hw, P, D :: ex, s2, x3.rel, ?_⟩
          cases q2 : gt s2 with
          | no => rw [q2] at e; cases e
          | ex C fs p => rw [q2] at e; cases e
          | ok b s3 =>
            rw [q2] at e
            intro H3 b' x4 hb
            obtain rfl : b' = b := hb
            have x5 := (x2.trans x3).trans x4
            cases b' with
            | false =>
              dsimp only at e
              refine iteF ?_
              by_cases hp3 : plainAt vs s3.env = true
              case neg => rw [if_neg hp3] at e; cases e
              rw [if_pos hp3] at e
              have w := wipe_owns x5.rel.lens hp3
              rw [hw] at w
              refine ⟨_, acc, accV, m.next x5 hp3 hw, (x5.exk D (List.mem_cons_self ..)).trans ho, ?_, e⟩
              have r5 := hr.kr x5.kr
              show DicR K P (P :: ((D :: ex) ++ owns (wipeE vs s3.env) (wipe σ vs))) H3 accV acc
              rw [w]
              exact r5
            | true =>
              dsimp only at e
              refine iteT ⟨P, D :: ex, s3, x4.rel, ?_⟩
              cases q3 : gk s3 with
              | no => rw [q3] at e; cases e
              | ex C fs p => rw [q3] at e; cases e
              | ok kd s4 =>
                rw [q3] at e
                dsimp only at e
                intro H4 kv x6 rk
                have x7 := x5.trans x6
                have rk : Rp K P (OO P (D :: ex) s4 σ2) H4 kv kd := rk
                refine ⟨P, D :: ex, s4, x6.rel, ?_⟩
                cases q4 : keyD kd with
                | none => rw [q4] at e; cases e
                | some key =>
                  rw [q4] at e
                  dsimp only at e
                  cases q5 : ge s4 with
                  | no => rw [q5] at e; cases e
                  | ex C fs p => rw [q5] at e; cases e
                  | ok yd s5 =>
                    rw [q5] at e
                    dsimp only at e
                    intro H5 v x8 rv
                    have x9 := x7.trans x8
                    by_cases hp3 : acc.length < sizeLine ∧ plainAt vs s5.env = true
                    case neg => rw [if_neg hp3] at e; cases e
                    rw [if_pos hp3] at e
                    have w := wipe_owns x9.rel.lens hp3.2
                    rw [hw] at w
                    have hlen : accV.length = acc.length := by simpa using congrArg List.length hr.1
                    have nf : Loose (H5 D) := .dK ((x9.exk D (List.mem_cons_self ..)).trans ho)
                    refine ⟨accV, key, key_vw (Rp.vw rk) q4, (x9.exk D (List.mem_cons_self ..)).trans ho, by rw [hlen]; exact hp3.1, _, _, _, (m.next x9 hp3.2 hw).upd nf, upd_same, ?_, e⟩
                    have r5 := hr.kr x9.kr
                    have rv : Rp K P (OO P (D :: ex) s5 σ2) H5 v yd := rv
                    obtain ⟨p1, p2⟩ := put_rp (k := key) rv r5.1 r5.2
                    have kp : Kp (OO P (D :: ex) s5 σ2) H5 (L2.upd H5 D (.dK (putK accV key v))) := .updO (oo_mem.mpr (.inr (.inl (List.mem_cons_self ..)))) nf
                    show DicR K P (P :: ((D :: ex) ++ owns (wipeE vs s5.env) (wipe σ vs))) _ _ _
                    rw [w]
                    exact ⟨p1, p2.kp kp⟩
      · rw [List.drop_length] at e
        cases e
        exact f H1 s1 D H' st (Mid.doneD st.rel hp nD m ho hr)
section
variable {X : Cx} {W : WX} {kx vx tg iter : Expr} {ifs : List Expr} {scope : Scope} {own : List (Str × Nat)} {pos : Pos} {t : TG} {gi : DSt → Out (List Dat)} {h : Dat → DSt → Option DSt} {gt : DSt → Out Bool} {gk ge : DSt → Out Dat}
theorem dn_dc (hc : X.calm = true) (hN : X.N.Nodup) (hi : DIt X W tg iter gi) (ok : BlkOk X.N X.env.scope scope own)
    (hg : ∀ (s : Shared) (H : Hp) (C : Addr) (cl : List (Str × Addr)) (fp : List Addr), DTc (X.blk s H scope (compEnvC scope cl C X.env) fp) tg t h (own.map (·.2))) (ht : ∀ (s : Shared) (H : Hp) (C : Addr) (cl : List (Str × Addr)) (fp : List Addr), DTs (X.blk s H scope (compEnvC scope cl C X.env) fp) W0 ifs gt)
    (hk : ∀ (s : Shared) (H : Hp) (C : Addr) (cl : List (Str × Addr)) (fp : List Addr), DE (X.blk s H scope (compEnvC scope cl C X.env) fp) W0 kx gk) (he : ∀ (s : Shared) (H : Hp) (C : Addr) (cl : List (Str × Addr)) (fp : List Addr), DE (X.blk s H scope (compEnvC scope cl C X.env) fp) W0 vx ge) (hs : ∀ x, foldedSetIterable iter X.env x = pure x := by intro _; rfl) :
    DN X W (.DictComp kx vx [⟨tg, iter, ifs, 0⟩] scope pos) (gNdc (own.map (·.2)) gi h gt gk ge) := PE.imp (pe_dc (tt := tG X.K RB W0 gt) (tk := tG X.K (RP X.K) W0 gk) (tv := tG X.K (RP X.K) W0 ge) hc hN hi ok (fun s H C cl fp => (hg s H C cl fp).1) ht hk he hs) fun σ H Q ⟨P, ex, s, rel, f⟩ => by
  refine dc_read (W := W) (P := P) (ex := ex) (s := s) (h := h) (hg X.s_0 (fun _ => none) 0 [] []).2 rel ?_
  unfold gNdc at f
  cases q : gDcA (own.map (·.2)) gi h gt gk ge s with
  | no => rw [q] at f; exact f
  | ex C fs p => rw [q] at f; exact f
  | ok acc sF =>
    rw [q] at f
    exact fun H1 s1 D H' st x => f H' (.ref D) (st.trans x.push)
end
end BD
namespace BD
open PySem PySem.Spec PyProof.Rows L2
section
variable {X : Cx} {W : WX}
theorem fin_seq {K : PySem.W.Frag} {P : Addr} {ex : List Addr} {s : DSt} {σ : St} {H : Hp} {α β γ δ : Type} {R : RR α β} {R2 : RR γ δ} {o : Out α} {k : α → DSt → Out γ} {Q1 : β → Hp → Prop} {Q : δ → Hp → Prop} (f : Fin K P ex R2 W σ s H Q (o.bind k))
    (h : ∀ a s1 H1 b, Step K P ex σ s H σ s1 H1 → R P (OO P ex s1 σ) σ H1 b a → Fin K P ex R2 W σ s1 H1 Q (k a s1) → Q1 b H1) : Fin K P ex R W σ s H Q1 o := by
  cases o with
  | ok a s1 => exact fun H1 b st r => h a s1 H1 b st r (Fin.go f st)
  | ex C fs p => exact f
  | no => exact f
def chainK (h' : Dat → Dat → DSt → Out Dat) (gc : DSt → Out (Nat ⊕ Dat)) (y : Nat ⊕ Dat) (z : Dat) (s3 : DSt) : Out Dat := match z with
  | .bl true => (gc s3).bind fun w s4 => match look s4 y, look s4 w with
    | some dy, some dw => h' dy dw s4
    | _, _ => .no
  | .bl false => .ok (.bl false) s3
  | _ => .no
def gChain (h h' : Dat → Dat → DSt → Out Dat) (ga gb gc : DSt → Out (Nat ⊕ Dat)) : DSt → Out Dat := fun s => (ga s).bind fun x s1 => (gb s1).bind fun y s2 => match look s2 x, look s2 y with
  | some dx, some dy => (h dx dy s2).bind (chainK h' gc y)
  | _, _ => .no
theorem chain_read {r r' : R2} {h h' : Dat → Dat → DSt → Out Dat} {ga gb gc : DSt → Out (Nat ⊕ Dat)} (hd : D2 X W r h) (hd' : D2 X W r' h') {σ : St} {H : Hp} {Q : VK} (t : tG X.K (RP X.K) W (gChain h h' ga gb gc) σ H Q) :
    tChain r r' (tG X.K (RH X.K) W ga) (tG X.K (RH X.K) W gb) (tG X.K (RH X.K) W gc) σ H Q := by
  obtain ⟨P, ex, s, rel, f⟩ := t
  unfold gChain at f
  refine tG_seq rel f fun hx s1 H1 x st rx f1 => ?_
  refine tG_seq st.rel f1 fun hy s2 H2 y st2 ry f2 => ?_
  cases e1 : look s2 hx with
  | none => rw [e1] at f2; exact f2.elim
  | some dx =>
    rw [e1] at f2
    cases e2 : look s2 hy with
    | none => rw [e2] at f2; exact f2.elim
    | some dy =>
      rw [e2] at f2
      refine hd P ex s2 σ H2 x y dx dy _ st2.rel (look_vw st2.rel (RH.step rx st2) e1) (look_vw st2.rel ry e2) (fin_seq f2 fun z s3 H3 b st3 rz f3 => ?_)
      have rz : Rp X.K P (OO P ex s3 σ) H3 b z := rz
      unfold chainK at f3
      cases rz with
      | bl k =>
        cases k with
        | false => exact ⟨false, rfl, iteF (fin_ok f3 st3.rel (Rp.bl false))⟩
        | true =>
          refine ⟨true, rfl, iteT (tG_seq st3.rel f3 fun hw s4 H4 w st4 rw4 f4 => ?_)⟩
          cases e3 : look s4 hy with
          | none => rw [e3] at f4; exact f4.elim
          | some dy' =>
            rw [e3] at f4
            cases e4 : look s4 hw with
            | none => rw [e4] at f4; exact f4.elim
            | some dw =>
              rw [e4] at f4
              exact hd' P ex s4 σ H4 y w dy' dw Q st4.rel (look_vw st4.rel (RH.step (RH.step ry st3) st4) e3) (look_vw st4.rel rw4 e4) f4
      | _ => exact f3.elim
theorem de_chain {a b c : Expr} {op op' : CmpOp} {pos : Pos} {r r' : R2} {h h' : Dat → Dat → DSt → Out Dat} {ga gb gc : DSt → Out (Nat ⊕ Dat)} (ho : OpR X (compareOp op) r) (ho' : OpR X (compareOp op') r') (hd : D2 X W r h) (hd' : D2 X W r' h') (ha : DH X W a ga) (hb : DH X W b gb) (hc : DH X W c gc)
    (hm : lastMarks [op, op'] [b, c] = false := by with_unfolding_all rfl) : DE X W (.Compare a [op, op'] [b, c] pos) (gChain h h' ga gb gc) := PE.imp (pe_chain ho ho' ha hb hc hm) fun σ H Q t => chain_read hd hd' t
end
end BD
namespace BD
open PySem PySem.Spec PyProof.Rows L2
theorem look_rp {K : PySem.W.Frag} {P : Addr} {O : List Addr} {H : Hp} (f : Str) : ∀ {vfs : List (Str × V)} {fs : List (Str × Dat)}, vfs.map (·.1) = fs.map (·.1) → Rps K P O H (vfs.map (·.2)) (fs.map (·.2)) →
    (fs.lookup f = none ∧ vfs.lookup f = none) ∨ ∃ d v, fs.lookup f = some d ∧ vfs.lookup f = some v ∧ Rp K P O H v d
  | [], [], _, _ => .inl ⟨rfl, rfl⟩
  | (k1, v) :: vfs, (k2, d) :: fs, e, r => by
    simp only [List.map_cons, List.cons.injEq] at e
    obtain ⟨e1, e2⟩ := e
    have e1 : k1 = k2 := e1
    subst e1
    cases r with
    | cons h t =>
      cases q : (f == k1) with
      | true => exact .inr ⟨d, v, by simp [List.lookup, q], by simp [List.lookup, q], h⟩
      | false =>
        have := look_rp f e2 t
        simpa [List.lookup, q] using this
  | [], _ :: _, e, _ => by cases e
  | _ :: _, [], e, _ => by cases e
def hFld (f : Str) (ok : Addr → Bool) : Dat → DSt → Out Dat := fun d s => match d with
  | .ins C fs => if ok C = true then (match fs.lookup f with | some x => .ok x s | none => .no) else .no
  | _ => .no
section
variable {X : Cx} {W : WX}
theorem de_fld {e : Expr} {f : Str} {pos : Pos} {ok : Addr → Bool} {g : DSt → Out (Nat ⊕ Dat)} (hC : ∀ C, ok C = true → Cls X.K C ∧ NoAttr X.K C f) (he : DH X W e g) (hb : attributeBase e f X.env (eval e X.env) = eval e X.env := by rfl) : DE X W (.Attribute e f pos) (gUn (hFld f ok) g) :=
  PE.imp (pe_fld he hb) fun σ H Q ⟨P, ex, s, rel, fn⟩ => by
  unfold gUn at fn
  refine tG_seq rel fn fun hx s1 H1 x st rx f1 => ?_
  cases e1 : look s1 hx with
  | none => rw [e1] at f1; exact f1.elim
  | some d =>
    rw [e1] at f1
    have v := look_vw st.rel rx e1
    cases d with
    | ins C fs =>
      obtain ⟨h1, f2⟩ := Fin.if f1
      obtain ⟨a, dx, vfs, rfl, ea, en, rs⟩ := v
      obtain ⟨c1, c2⟩ := hC C h1
      rcases look_rp f en rs with ⟨q1, q2⟩ | ⟨y, w, q1, q2, r⟩
      · rw [q1] at f2
        exact f2.elim
      · rw [q1] at f2
        exact ⟨a, C, dx, vfs, w, rfl, ea, c1, c2, q2, fin_ok f2 st.rel r⟩
    | _ => exact f1.elim
end
end BD
namespace BD
open PySem PySem.Spec PyProof.Rows L2
def putFd (f : Str) (v : Dat) : List (Str × Dat) → List (Str × Dat)
  | [] => [(f, v)]
  | (g, x) :: r => if g = f then (g, v) :: r else (g, x) :: putFd f v r
theorem putF_rp {K : PySem.W.Frag} {P : Addr} {O : List Addr} {H : Hp} {f : Str} {v : V} {d : Dat} (r : Rp K P O H v d) : ∀ {vfs : List (Str × V)} {fs : List (Str × Dat)}, vfs.map (·.1) = fs.map (·.1) → Rps K P O H (vfs.map (·.2)) (fs.map (·.2)) →
    (putF f v vfs).map (·.1) = (putFd f d fs).map (·.1) ∧ Rps K P O H ((putF f v vfs).map (·.2)) ((putFd f d fs).map (·.2))
  | [], [], _, _ => ⟨rfl, .cons r .nil⟩
  | (k1, v1) :: vfs, (k2, d1) :: fs, e, r1 => by
    simp only [List.map_cons, List.cons.injEq] at e
    obtain ⟨e1, e2⟩ := e
    have e1 : k1 = k2 := e1
    subst e1
    cases r1 with
    | cons h t =>
      unfold putF putFd
      by_cases z : k1 = f
      · rw [if_pos z, if_pos z]
        exact ⟨by simp [e2], .cons r t⟩
      · rw [if_neg z, if_neg z]
        obtain ⟨q1, q2⟩ := putF_rp (f := f) r e2 t
        exact ⟨by simp [q1], .cons h q2⟩
  | [], _ :: _, e, _ => by cases e
  | _ :: _, [], e, _ => by cases e
def gFldS (i : Nat) (f : Str) (ok : Addr → Bool) (g : DSt → Out Dat) : DSt → OutS := fun s => (g s).bindS fun d s1 => match s1.env[i]? with
  | some (.oi x C fs) => if ok C = true ∧ fs.length < 1000 then .nx { s1 with env := s1.env.set i (.oi x C (putFd f d fs)) } else .no
  | _ => .no
section
variable {X : Cx} {W : WX}
theorem ds_fld {o value : Expr} {f : Str} {i : Nat} {pos pos' : Pos} {ok : Addr → Bool} {g : DSt → Out Dat} (hC : ∀ C, ok C = true → Cls X.K C ∧ NoAttr X.K C f) (ho : PE X o (tVar i)) (hv : DE X W value g) (hs : swapsWith value (some (.Attribute o f pos')) pos.line X.env = pure false := by rfl) :
    DS X W (.Assign [.Attribute o f pos'] value pos) (gFldS i f ok g) := PS.imp (ps_fld ho hv hs) fun D σ H ⟨P, ex, s, rel, fn⟩ => by
  unfold gFldS at fn
  refine tG_seqS rel fn fun d s1 H1 y st ry f1 => ?_
  cases q : s1.env[i]? with
  | none => rw [q] at f1; exact f1.elim
  | some w =>
    rw [q] at f1
    cases w with
    | oi x C fs =>
      obtain ⟨⟨h1, h2⟩, f2⟩ := FinS.if f1
      obtain ⟨u, e1, dx, vfs, rfl, ea, en, rs⟩ := st.rel.slot q
      obtain ⟨c1, c2⟩ := hC C h1
      obtain ⟨p1, p2⟩ := putF_rp (f := f) (show Rp X.K P (OO P ex s1 σ) H1 y d from ry) en rs
      have hl : vfs.length = fs.length := by simpa using congrArg List.length en
      exact ⟨.ref x, e1, x, C, dx, vfs, rfl, ea, c1, c2, by rw [hl]; exact h2, f2 _ _ (Step.mut st.rel q e1 rfl rfl fun kp => ⟨dx, _, rfl, upd_same, p1, p2.kp kp⟩)⟩
    | _ => exact f1.elim
end
inductive OutI where
  | ok (fs : List (Str × Dat)) (p : Pen) | ex (C : Addr) (fs : List (Str × Dat)) (p : Pen) | no
abbrev FI := List Dat → Pen → OutI
/-- the promise of an __init__: the arguments without self -/
def spI (K : PySem.W.Frag) (n : Nat) (C : Addr) (F : FI) : Sp := fun vs H Q E => vs.length = n + 1 ∧ ∃ x dx us P ex ds p, vs = .ref x :: us ∧ H x = some (.ins C dx []) ∧ (P :: x :: ex).Nodup ∧ (∀ a ∈ ex, ∃ o, H a = some o) ∧ PenOk P (P :: x :: ex) H p ∧ Rps K P (P :: x :: ex) H us ds ∧ (match F ds p with
  | .ok fs p' => ∀ H' vfs dx', Kp (P :: x :: ex) H H' → (∀ a ∈ ex, H' a = H a) → PenOk P (P :: x :: ex) H' p' → H' x = some (.ins C dx' vfs) → vfs.map (·.1) = fs.map (·.1) → Rps K P (P :: x :: ex) H' (vfs.map (·.2)) (fs.map (·.2)) → Q .non H'
  | .ex C' fs p' => ∀ H' od, Kp (P :: x :: ex) H H' → (∀ a ∈ ex, H' a = H a) → PenOk P (P :: ex) H' p' → ErrAt K P (P :: ex) H' od fs → E (.ref C') od H'
  | .no => False)
def runI (m : Nat) (C : Addr) (g : DSt → OutS) (x : Addr) : FI := fun ds p => match g ⟨.oi x C [] :: (ds.map .d ++ List.replicate m .no), p⟩ with
  | .nx s => (match s.env[(0 : Nat)]? with
    | some (DV.oi y C' fs) => if y = x ∧ C' = C then .ok fs s.pen else .no
    | _ => .no)
  | .ex C' fs p' => .ex C' fs p'
  | _ => .no
theorem rel_startI {K : PySem.W.Frag} {P x C dx : Addr} {ex : List Addr} {H : Hp} {us : List V} {ds : List Dat} {p : Pen} {m : Nat} (h0 : H x = some (.ins C dx [])) (h1 : (P :: x :: ex).Nodup) (h2 : ∀ a ∈ ex, ∃ o, H a = some o) (h3 : PenOk P (P :: x :: ex) H p) (h4 : Rps K P (P :: x :: ex) H us ds) :
    Rel K P ex ⟨.oi x C [] :: (ds.map .d ++ List.replicate m .no), p⟩ (some (.ref x) :: (us.map some ++ List.replicate m none)) H ∧ ∀ b, b ∈ OO P ex ⟨.oi x C [] :: (ds.map .d ++ List.replicate m .no), p⟩ (some (.ref x) :: (us.map some ++ List.replicate m none)) ↔ b ∈ P :: x :: ex := by
  have n' : (P :: ex).Nodup := by
    simp only [List.nodup_cons, List.mem_cons, not_or] at h1 ⊢
    exact ⟨h1.1.2, h1.2.2⟩
  have sub : ∀ a ∈ P :: ex, a ∈ P :: x :: ex := fun a ha => by
    rcases List.mem_cons.mp ha with h | h
    · exact List.mem_cons.mpr (.inl h)
    · exact List.mem_cons_of_mem _ (List.mem_cons_of_mem _ h)
  have e : owns (DV.oi x C [] :: (ds.map .d ++ List.replicate m .no)) (some (.ref x) :: (us.map some ++ List.replicate m none)) = [x] := by
    rw [owns, owns_plain]
    simp [own1, DV.isO]
  have mem : ∀ b, b ∈ OO P ex ⟨.oi x C [] :: (ds.map .d ++ List.replicate m .no), p⟩ (some (.ref x) :: (us.map some ++ List.replicate m none)) ↔ b ∈ P :: x :: ex := fun b => by
    unfold OO
    rw [e]
    simp only [List.mem_cons, List.mem_append, List.not_mem_nil, or_false]
    constructor
    · rintro (h | h | h)
      · exact .inl h
      · exact .inr (.inr h)
      · exact .inr (.inl h)
    · rintro (h | h | h)
      · exact .inl h
      · exact .inr (.inr h)
      · exact .inr (.inl h)
  obtain ⟨r0, _⟩ := rel_start (m := m) n' h2 (h3.anti sub) (h4.anti sub)
  refine ⟨⟨?_, ?_, h3.anti fun a ha => (mem a).mp ha, h2⟩, mem⟩
  · unfold OO
    rw [e]
    refine (List.Perm.nodup_iff ?_).mp h1
    refine List.Perm.cons _ (List.perm_iff_count.mpr fun a => ?_)
    simp only [List.count_append, List.count_cons, List.count_nil]
    omega
  · refine .cons ⟨dx, [], rfl, h0, rfl, .nil⟩ ?_
    have a : ∀ {us : List V} {ds : List Dat}, Rps K P (P :: x :: ex) H us ds → Paired (SlotOk K P (OO P ex ⟨.oi x C [] :: (ds.map .d ++ List.replicate m .no), p⟩ (some (.ref x) :: (us.map some ++ List.replicate m none))) H) (ds.map .d ++ List.replicate m .no) (us.map some ++ List.replicate m none) := by
      intro us ds h
      have b : ∀ (O : List Addr), (∀ b ∈ O, b ∈ P :: x :: ex) → ∀ {us : List V} {ds : List Dat}, Rps K P (P :: x :: ex) H us ds → Paired (SlotOk K P O H) (ds.map .d ++ List.replicate m .no) (us.map some ++ List.replicate m none) := by
        intro O hO us ds h
        induction ds generalizing us with
        | nil =>
          cases h
          have c : ∀ m : Nat, Paired (SlotOk K P O H) (List.replicate m DV.no) (List.replicate m none) := fun m => by
            induction m with
            | zero => exact .nil
            | succ m ih => exact .cons trivial ih
          exact c m
        | cons d ds ih =>
          cases h with
          | cons h t => exact .cons ⟨_, rfl, h.anti hO⟩ (ih t)
      refine b _ (fun z hz => ?_) h
      have e' : owns (DV.oi x C [] :: (ds.map .d ++ List.replicate m .no)) (some (.ref x) :: (us.map some ++ List.replicate m none)) = [x] := by
        rw [owns, owns_plain]
        simp [own1, DV.isO]
      unfold OO at hz
      rw [e'] at hz
      simp only [List.mem_cons, List.mem_append, List.not_mem_nil, or_false] at hz ⊢
      rcases hz with h | h | h
      · exact .inl h
      · exact .inr (.inr h)
      · exact .inr (.inl h)
    exact a h4
end BD
namespace BD
open PySem PySem.Spec PyProof.Rows L2
structure FnI (P : Program) (w : World) (K : PySem.W.Frag) (mg : Str → Option Value) (base : Heap) (CX : CXT) (k : Nat) (f : Addr) (fd : FuncData) (ps : List Str) (n : Nat) (C : Addr) (G : FI) : Prop where
  fn : FnOk P w K mg base CX k f fd ps (spI K n C G)
  len : ∀ ds p, G ds p ≠ .no → ds.length = n
section
variable {P : Program} {w : World} {K : PySem.W.Frag} {mg : Str → Option Value} {base : Heap}
theorem fin_runI {W : WX} {N ps : List Str} {n : Nat} {C : Addr} {G : FI} {g : DSt → OutS} {vs : List V} {H : Hp} {Q : VK} {E : XK} (hps : ps.length = n + 1) (hle : ∀ x ds p, G ds p = .no ∨ runI (N.length - ps.length) C g x ds p = G ds p) (hW : ∀ C od σ H', E C od H' → W C od σ H') (q : spI K n C G vs H Q E) :
    tS K W g { nx := fun _ H' => Q .non H', rt := Q } (L2.start N vs) H := by
  obtain ⟨hl, x, dx, us, P, ex, ds, p, rfl, h0, h1, h2, h3, h4, h5⟩ := q
  have hs : L2.start N (.ref x :: us) = some (.ref x) :: (us.map some ++ List.replicate (N.length - ps.length) none) := by
    unfold L2.start
    rw [hl, hps]
    rfl
  obtain ⟨rel, mem⟩ := rel_startI (m := N.length - ps.length) h0 h1 h2 h3 h4
  rw [hs]
  refine ⟨P, ex, _, rel, ?_⟩
  have kpO : ∀ {H' : Hp}, Kp (OO P ex ⟨.oi x C [] :: (ds.map .d ++ List.replicate (N.length - ps.length) .no), p⟩ (some (.ref x) :: (us.map some ++ List.replicate (N.length - ps.length) none))) H H' → Kp (P :: x :: ex) H H' := fun k => ⟨fun a na o e => k.1 a (fun z => na ((mem a).mp z)) o e, k.2⟩
  rcases hle x ds p with e | e
  · rw [e] at h5
    exact h5.elim
  · rw [← e] at h5
    unfold runI at h5
    cases q : g ⟨.oi x C [] :: (ds.map .d ++ List.replicate (N.length - ps.length) .no), p⟩ with
    | nx s' =>
      rw [q] at h5
      intro σ' H' st
      dsimp only at h5
      cases q0 : s'.env[(0 : Nat)]? with
      | none => rw [q0] at h5; exact h5.elim
      | some w0 =>
        rw [q0] at h5
        cases w0 with
        | oi y C' fs =>
          dsimp only at h5
          by_cases hc : y = x ∧ C' = C
          case neg => rw [if_neg hc] at h5; exact h5.elim
          rw [if_pos hc] at h5
          obtain ⟨rfl, rfl⟩ := hc
          obtain ⟨u, e1, dx', vfs, rfl, ea, en, rs⟩ := st.rel.slot q0
          have hx : y ∈ owns s'.env σ' := own1_sub q0 e1 y (by simp [own1, DV.isO])
          have sub : ∀ a ∈ P :: y :: ex, a ∈ OO P ex s' σ' := fun a ha => by
            rcases List.mem_cons.mp ha with h | h
            · exact oo_mem.mpr (.inl h)
            · rcases List.mem_cons.mp h with h | h
              · exact oo_mem.mpr (.inr (.inr (by rw [h]; exact hx)))
              · exact oo_mem.mpr (.inr (.inl h))
          exact h5 H' vfs dx' (kpO st.keep) st.exk (st.rel.pen.anti sub) ea en (rs.anti sub)
        | _ => exact h5.elim
    | ex C' fs p' =>
      rw [q] at h5
      intro σ' H' od st
      exact hW _ _ _ _ (h5 H' od (kpO st.keep) st.exk st.pen st.err)
    | rt d p' => rw [q] at h5; exact h5.elim
    | bk s' => rw [q] at h5; exact h5.elim
    | ct s' => rw [q] at h5; exact h5.elim
    | no => rw [q] at h5; exact h5.elim
end
end BD
namespace BD
open PySem PySem.Spec PyProof.Rows L2
section
variable {X : Cx} {W : WX} {CX : CXT}
theorem sp_make {K : PySem.W.Frag} {P : Addr} {ex : List Addr} {s1 : DSt} {σ : St} {H1 : Hp} {n : Nat} {C x dx : Addr} {G : FI} {ds : List Dat} {vs : List V} {Q : VK} {E : XK} (rel : Rel K P ex s1 σ H1) (hl : ∀ ds p, G ds p ≠ .no → ds.length = n) (r : Rps K P (OO P ex s1 σ) H1 vs ds) (nx : H1 x = none) (ndx : H1 dx = none) (hne : dx ≠ x)
    (hE : ∀ C' fs p, G ds s1.pen ≠ .ex C' fs p)
    (f : Fin K P ex (RP K) W σ s1 H1 Q (match G ds s1.pen with | .ok fs p => .ok (.ins C fs) { s1 with pen := p } | .ex C' fs p => .ex C' fs p | .no => .no)) :
    spI K n C G (.ref x :: vs) (upd (upd H1 dx (.own x)) x (.ins C dx [])) (fun v H2 => v = .non ∧ Q (.ref x) H2) E := by
  have fx := rel.fresh nx
  have hn : G ds s1.pen ≠ .no := fun z => by rw [z] at f; exact f
  have up : ∀ b o, H1 b = some o → upd (upd H1 dx (.own x)) x (.ins C dx []) b = some o := fun b o e => by
    rw [upd_ne (ne_of_none e nx), upd_ne (ne_of_none e ndx)]
    exact e
  have kr : Kr (OO P ex s1 σ) (P :: x :: (ex ++ owns s1.env σ)) H1 (upd (upd H1 dx (.own x)) x (.ins C dx [])) := by
    refine ⟨fun a na o e => ?_, fun a o u e => up a _ e⟩
    refine ⟨fun z => ?_, .inl (up a o e)⟩
    rcases List.mem_cons.mp z with z | z
    · exact na (oo_mem.mpr (.inl z))
    · rcases List.mem_cons.mp z with z | z
      · exact ne_of_none e nx z
      · exact na (List.mem_cons_of_mem _ z)
  have sub : ∀ a ∈ OO P ex s1 σ, a ∈ P :: x :: (ex ++ owns s1.env σ) := fun a ha => by
    rcases List.mem_cons.mp ha with h | h
    · exact List.mem_cons.mpr (.inl h)
    · exact List.mem_cons_of_mem _ (List.mem_cons_of_mem _ h)
  refine ⟨by simp [r.length.trans (hl _ _ hn)], x, dx, vs, P, ex ++ owns s1.env σ, ds, s1.pen, rfl, upd_same, ?_, fun a ha => ?_, ?_, r.kr kr, ?_⟩
  · have n1 := rel.nd
    unfold OO at n1 fx
    simp only [List.nodup_cons, List.mem_cons, not_or] at n1 fx ⊢
    exact ⟨⟨fun z => fx.1 z.symm, n1.1⟩, fx.2, n1.2⟩
  · obtain ⟨o, e⟩ := rel.there a (List.mem_cons_of_mem _ ha)
    exact ⟨o, up a o e⟩
  · obtain ⟨c, q1, q2, q3⟩ := rel.pen.at_
    exact ⟨⟨c, up _ _ q1, (kr.1 c q2 _ q3).1, up _ _ q3⟩, rel.pen.lo, rel.pen.hi, rel.pen.gg, rel.pen.tab.still kr.2 fun a ps e => up a _ e, rel.pen.n⟩
  · cases q : G ds s1.pen with
    | ok fs p =>
      rw [q] at f
      intro H' vfs dx' k e hp hx en rs
      refine ⟨rfl, ?_⟩
      have k1 : Kp (OO P ex s1 σ) H1 H' := ⟨fun a na o ea => k.1 a (kr.1 a na o ea).1 o (up a o ea), kr.2.trans k.2⟩
      have e1 : ∀ b ∈ ex ++ owns s1.env σ, H' b = H1 b := fun b hb => by
        obtain ⟨o, eo⟩ := rel.there b (List.mem_cons_of_mem _ hb)
        rw [e b hb, up b o eo, eo]
      exact f H' (.ref x) ⟨rel.move k1 e1 (hp.anti sub), k1, fun a ha => e1 a (List.mem_append_left _ ha), fun _ h => .inl h⟩ (Rp.ins fx hx en (rs.anti sub))
    | ex C' fs p => exact (hE _ _ _ q).elim
    | no => exact hn q
end
end BD
namespace BD
open PySem PySem.Spec PyProof.Rows L2
section
variable {X : Cx} {W : WX}
/-- a def called by the machine itself (an own __len__, __getitem__ ..), one step deeper -/
theorem run_in1 {k : Nat} {f : Addr} {fd : FuncData} {ps : List Str} {sp : Sp} {pins : List (Addr × Obj)} {σ : St} {H : Hp} {s : Shared} {Q : VK} {us : List Value} {vs : List V} {R : Value → Shared → Prop} (F : FnOk X.prog X.w X.K X.mg X.base CX0 k f fd ps sp) (hr : Room (k + 1) X.A) (hb : Binds X.K fd ps []) (I : Inv X pins σ H s) (r : Vals vs us) (h : sp vs H Q E0)
    (hR : ∀ u s', EP X pins σ Q u s' → R u s') : wpAny (model X.prog X.w) X.A.in1 (call (.ref f) us) R X.xe s := by
  have hl : (us ++ []).length = ps.length := by rw [List.append_nil, ← r.length]; exact F.len _ _ _ _ h
  have hb' := hb s us I.kIn hl
  rw [List.append_nil] at hb'
  refine wpAny_call (codeAny_mono (F.run X.A.in1 X.stack s H ⟨us, []⟩ us vs Q E0 hr.in1 I.env0.in1 hb' r h) fun r s' hq => ?_)
  cases r with
  | error e => exact False.elim hq
  | ok fl =>
    cases fl with
    | ret u => exact hR u s' (I.after hq)
    | next => exact False.elim hq
    | brk => exact False.elim hq
    | cont => exact False.elim hq
theorem run_0 {k : Nat} {f : Addr} {fd : FuncData} {ps : List Str} {sp : Sp} {pins : List (Addr × Obj)} {σ : St} {H : Hp} {s : Shared} {Q : VK} {us : List Value} {vs : List V} {R : Value → Shared → Prop} (F : FnOk X.prog X.w X.K X.mg X.base CX0 k f fd ps sp) (hr : Room k X.A) (hb : Binds X.K fd ps []) (I : Inv X pins σ H s) (r : Vals vs us) (h : sp vs H Q E0)
    (hR : ∀ u s', EP X pins σ Q u s' → R u s') : wpAny (model X.prog X.w) X.A (call (.ref f) us) R X.xe s := by
  have hl : (us ++ []).length = ps.length := by rw [List.append_nil, ← r.length]; exact F.len _ _ _ _ h
  have hb' := hb s us I.kIn hl
  rw [List.append_nil] at hb'
  refine wpAny_call (codeAny_mono (F.run X.A X.stack s H ⟨us, []⟩ us vs Q E0 hr I.env0 hb' r h) fun r s' hq => ?_)
  cases r with
  | error e => exact False.elim hq
  | ok fl =>
    cases fl with
    | ret u => exact hR u s' (I.after hq)
    | next => exact False.elim hq
    | brk => exact False.elim hq
    | cont => exact False.elim hq
end
end BD
namespace BD
open PySem PySem.Spec PyProof.Rows L2
def callO (G : FD) (ds : List Dat) (s1 : DSt) : Out Dat := match G ds s1.pen with
  | .ok d p => .ok d { s1 with pen := p }
  | .ex C fs p => .ex C fs p
  | .no => .no
section
variable {X : Cx} {W : WX}
def hLenO (ok : Addr → Bool) (G : FD) : Dat → DSt → Out Dat := fun d s => match d with
  | .ins C fs => if ok C = true then (callO G [.ins C fs] s).bind fun v s1 => (match v with
      | .int n => if 0 ≤ n ∧ n < 1000000 then .ok (.int n) s1 else .no
      | _ => .no) else .no
  | _ => .no
theorem call_lenO {k : Nat} {f : Addr} {fd : FuncData} {ps : List Str} {sp : Sp} {ok : Addr → Bool} (F : FnOk X.prog X.w X.K X.mg X.base CX0 k f fd ps sp) (hr : Room (k + 1) X.A) (hb : Binds X.K fd ps []) (hC : ∀ C, ok C = true → PySem.W.findIn X.K (.ref C) "__len__" = some (some (.ref f))) (hf : PySem.W.isFn X.K (.ref f) = true) :
    CallR X (.builtin "len") (fun xs H Q => ∃ a C dx fs, xs = [.ref a] ∧ H a = some (.ins C dx fs) ∧ ok C = true ∧ sp [.ref a] H (fun v H' => ∃ n : Int, v = .int n ∧ 0 ≤ n ∧ n < 2 ^ 63 ∧ Q (.int n) H') E0) := by
  intro pins s σ H xs us Q I r h
  obtain ⟨a, C, dx, fs, rfl, ea, hk, h⟩ := h
  obtain ⟨u, rfl, ru⟩ := vals1 r
  cases (show u = Value.ref a from ru)
  obtain ⟨mA, O, _⟩ := ins_get I.hok ea
  obtain ⟨od, J, _⟩ := O.look
  obtain ⟨m, fr⟩ := I.fr
  refine PySem.W.len_K fr I.ok.mod.kin J (hC C hk) hf (run_in1 (vs := [.ref a]) F hr hb I (.cons rfl .nil) h fun u s' ep => ?_)
  obtain ⟨v, H', I', rv, n, rfl, h0, h1, q⟩ := ep
  obtain ⟨t, rfl⟩ := rv
  exact ⟨⟨h0, h1⟩, .int n, H', I'.tok _, ⟨_, rfl⟩, q⟩
theorem de_lenO {k : Nat} {f : Addr} {fd : FuncData} {ps : List Str} {G : FD} {ok : Addr → Bool} {e : Expr} {p pos : Pos} {g : DSt → Out Dat} (F : FnD X.prog X.w X.K X.mg X.base CX0 k f fd ps G) (hne : ∀ ds p C fs p', G ds p ≠ .ex C fs p') (hr : Room (k + 1) X.A) (hb : Binds X.K fd ps []) (hC : ∀ C, ok C = true → PySem.W.findIn X.K (.ref C) "__len__" = some (some (.ref f))) (hf : PySem.W.isFn X.K (.ref f) = true)
    (hg : Gl X "len") (hm : X.mg "len" = none) (ha : DE X W e g) (hs : starEach (e :: []) X.env = (false, eval e X.env) :: starEach [] X.env := by rfl) (hpl : (backTo pos (starEach [] X.env)).any (·.1) = false := by rfl) :
    DE X W (.Call (.Name "len" p) [e] [] pos) (fun s => (g s).bind (hLenO ok G)) :=
  PE.imp (pe_callB (call_lenO F.fn hr hb hC hf) hg hm PySem.boot_len (pa_cons ha pa_nil hs) (by decide) (by decide) hs hpl) fun σ H Q ⟨P, ex, s, rel, fn⟩ => by
  refine tG_seq rel fn fun d s1 H1 v st r f1 => ?_
  have r : Rp X.K P (OO P ex s1 σ) H1 v d := r
  cases r with
  | @ins a C dx vfs fs n ea en rs =>
    obtain ⟨h1, f2⟩ := Fin.if f1
    refine ⟨a, C, dx, vfs, rfl, ea, h1, sp_call st.rel F.len (.cons (.ins n ea en rs) .nil) (fun C fs p H' od q _ => (hne _ _ _ _ _ q).elim) (fin_seq (R := RP X.K) (show Fin X.K P ex (RP X.K) W σ s1 H1 Q ((callO G [.ins C fs] s1).bind _) from f2) fun z s2 H2 b st2 rz f3 => ?_)⟩
    have rz : Rp X.K P (OO P ex s2 σ) H2 b z := rz
    cases rz with
    | int n =>
      obtain ⟨⟨h2, h3⟩, f4⟩ := Fin.if f3
      exact ⟨n, rfl, h2, by omega, fin_ok f4 st2.rel (Rp.int n)⟩
    | _ => exact f3.elim
  | _ => exact f1.elim
end
end BD
namespace BD
open PySem PySem.Spec PyProof.Rows L2
section
variable {X : Cx} {W : WX}
def D2P (X : Cx) (W : WX) (r : R2) (h : Dat → Dat → DSt → Out Dat) : Prop := ∀ P ex s σ H x y dx dy (Q : VK), Rel X.K P ex s σ H → Rp X.K P (OO P ex s σ) H x dx → Rp X.K P (OO P ex s σ) H y dy → Fin X.K P ex (RP X.K) W σ s H Q (h dx dy s) → r x y H Q
def gOpP (h : Dat → Dat → DSt → Out Dat) (ga gb : DSt → Out Dat) : DSt → Out Dat := fun s => (ga s).bind fun x s1 => (gb s1).bind fun y s2 => h x y s2
theorem top_readP {r : R2} {h : Dat → Dat → DSt → Out Dat} {ga gb : DSt → Out Dat} (hd : D2P X W r h) {σ : St} {H : Hp} {Q : VK} (t : tG X.K (RP X.K) W (gOpP h ga gb) σ H Q) : tOp r (tG X.K (RP X.K) W ga) (tG X.K (RP X.K) W gb) σ H Q := by
  obtain ⟨P, ex, s, rel, f⟩ := t
  unfold gOpP at f
  refine tG_seq rel f fun dx s1 H1 x st rx f1 => ?_
  refine tG_seq st.rel f1 fun dy s2 H2 y st2 ry f2 => ?_
  exact hd P ex s2 σ H2 x y dx dy Q st2.rel (Rp.step rx st2) ry f2
theorem de_cmpP {a b : Expr} {op : CmpOp} {pos : Pos} {r : R2} {h : Dat → Dat → DSt → Out Dat} {ga gb : DSt → Out Dat} (ho : OpR X (compareOp op) r) (hd : D2P X W r h) (ha : DE X W a ga) (hb : DE X W b gb) (hm : behindInMarks op b = false) : DE X W (.Compare a [op] [b] pos) (gOpP h ga gb) :=
  PE.imp (pe_cmpR ho ha hb hm) fun σ H Q t => top_readP hd t
theorem dt_cmpP {a b : Expr} {op : CmpOp} {pos : Pos} {r : R2} {h : Dat → Dat → DSt → Out Dat} {ga gb : DSt → Out Dat} (ho : OpR X (compareOp op) r) (hd : D2P X W r h) (ha : DE X W a ga) (hb : DE X W b gb) (hm : behindInMarks op b = false) : DT X W (.Compare a [op] [b] pos) (gB (gOpP h ga gb)) :=
  PT.imp (pt_cmpR ho ha hb hm) fun σ H Q t => tb_read (fun Q' t' => top_readP hd t') t
def hInO (n : Bool) (ok : Addr → Bool) (G : FD) : Dat → Dat → DSt → Out Dat := fun y o s => match o with
  | .ins C fs => if ok C = true then (callO G [.ins C fs, y] s).bind fun v s1 => (match v with
      | .bl b => .ok (.bl (n != b)) s1
      | _ => .no) else .no
  | _ => .no
theorem op_inO {k : Nat} {f : Addr} {fd : FuncData} {ps : List Str} {sp : Sp} {ok : Addr → Bool} (F : FnOk X.prog X.w X.K X.mg X.base CX0 k f fd ps sp) (hr : Room k X.A) (hb : Binds X.K fd ps []) (hC : ∀ C, ok C = true → PySem.W.findIn X.K (.ref C) "__contains__" = some (some (.ref f))) (hf : PySem.W.isFn X.K (.ref f) = true) :
    OpR X (compareOp .In) (fun y x H Q => ∃ a C dx fs, x = .ref a ∧ H a = some (.ins C dx fs) ∧ ok C = true ∧ sp [.ref a, y] H (fun v H' => ∃ b, v = .bl b ∧ Q (.bl (false != b)) H') E0) := by
  intro pins s σ H y x v u Q I ry rx h
  obtain ⟨a, C, dx, fs, rfl, ea, hk, h⟩ := h
  cases (show u = Value.ref a from rx)
  obtain ⟨mA, O, _⟩ := ins_get I.hok ea
  obtain ⟨od, J, _⟩ := O.look
  obtain ⟨m, fr⟩ := I.fr
  refine PySem.W.in_K fr I.ok.mod.kin J (hC C hk) hf (run_0 (vs := [.ref a, y]) F hr hb I (.cons rfl (.cons ry .nil)) h fun u s' ep => ?_)
  obtain ⟨v', H', I', rv, b, rfl, q⟩ := ep
  cases rv
  refine wpAny_pure ⟨.bl b, H', I', rfl, ?_⟩
  cases b <;> exact q
theorem d2_inO {n : Bool} {k : Nat} {f : Addr} {fd : FuncData} {ps : List Str} {G : FD} {ok : Addr → Bool} (F : FnD X.prog X.w X.K X.mg X.base CX0 k f fd ps G) (hne : ∀ ds p C fs p', G ds p ≠ .ex C fs p') :
    D2P X W (fun y x H Q => ∃ a C dx fs, x = .ref a ∧ H a = some (.ins C dx fs) ∧ ok C = true ∧ spD X.K ps.length G [.ref a, y] H (fun v H' => ∃ b, v = .bl b ∧ Q (.bl (n != b)) H') E0) (hInO n ok G) := fun P ex s σ H y x dy dx Q rel hy hx fn => by
  cases hx with
  | @ins a C dx vfs fs nO ea en rs =>
    obtain ⟨h1, f2⟩ := Fin.if fn
    refine ⟨a, C, dx, vfs, rfl, ea, h1, sp_call rel F.len (.cons (.ins nO ea en rs) (.cons hy .nil)) (fun C fs p H' od q _ => (hne _ _ _ _ _ q).elim) (fin_seq (R := RP X.K) (show Fin X.K P ex (RP X.K) W σ s H Q ((callO G [.ins C fs, dy] s).bind _) from f2) fun z s2 H2 b st2 rz f3 => ?_)⟩
    have rz : Rp X.K P (OO P ex s2 σ) H2 b z := rz
    cases rz with
    | bl b => exact ⟨b, rfl, fin_ok f3 st2.rel (Rp.bl _)⟩
    | _ => exact f3.elim
  | _ => exact fn.elim
end
end BD
namespace BD
open PySem PySem.Spec PyProof.Rows L2
section
variable {X : Cx} {W : WX}
def hIxO (ok : Addr → Bool) (G : FD) : Dat → Dat → DSt → Out Dat := fun o y s => match o with
  | .ins C fs => if ok C = true then callO G [.ins C fs, y] s else .no
  | _ => .no
theorem pe_ixO {a b : Expr} {pos : Pos} {ta tb : TE} {k : Nat} {f : Addr} {fd : FuncData} {ps : List Str} {sp : Sp} {ok : Addr → Bool} (F : FnOk X.prog X.w X.K X.mg X.base CX0 k f fd ps sp) (hr : Room (k + 1) X.A) (hb : Binds X.K fd ps []) (hC : ∀ C, ok C = true → PySem.W.findIn X.K (.ref C) "__getitem__" = some (some (.ref f))) (hf : PySem.W.isFn X.K (.ref f) = true) (hn : PySem.W.fnIn X.K f = true)
    (ha : PE X a ta) (hi : PE X b tb) (hsl : ∀ x i, subscripted b true (.ref x) i = runValue (.builtin "lifetime.subscript" ⟨[.ref x, i], []⟩)) :
    PE X (.Subscript a b pos) (tOp (fun x y H Q => ∃ a C dx fs, x = .ref a ∧ H a = some (.ins C dx fs) ∧ ok C = true ∧ sp [.ref a, y] H Q E0) ta tb) := by
  refine ⟨fun pins s σ H Q I h => ?_⟩
  refine Subscript_ (thn (ha.run pins s σ H _ I h) fun v s1 ⟨x, H1, I1, r1, q1⟩ => thn (hi.run pins s1 σ H1 _ I1 q1) fun u s2 ⟨y, H2, I2, ry, q2⟩ => ?_)
  obtain ⟨a, C, dx, fs, rfl, ea, hk, h⟩ := q2
  cases (show v = Value.ref a from r1)
  obtain ⟨mA, O, _⟩ := ins_get I2.hok ea
  obtain ⟨od, J, _⟩ := O.look
  obtain ⟨m, fr⟩ := I2.fr
  exact PySem.W.sub_K fr I2.ok.mod.kin J (hC C hk) hn hf (run_in1 (vs := [.ref a, y]) F hr hb I2 (.cons rfl (.cons ry .nil)) h fun u s' ep => ep) (hsl a u)
theorem d2_ixO {k : Nat} {f : Addr} {fd : FuncData} {ps : List Str} {G : FD} {ok : Addr → Bool} (F : FnD X.prog X.w X.K X.mg X.base CX0 k f fd ps G) (hne : ∀ ds p C fs p', G ds p ≠ .ex C fs p') :
    D2P X W (fun x y H Q => ∃ a C dx fs, x = .ref a ∧ H a = some (.ins C dx fs) ∧ ok C = true ∧ spD X.K ps.length G [.ref a, y] H Q E0) (hIxO ok G) := fun P ex s σ H x y dx dy Q rel hx hy fn => by
  cases hx with
  | @ins a C dx vfs fs nO ea en rs =>
    obtain ⟨h1, f2⟩ := Fin.if fn
    exact ⟨a, C, dx, vfs, rfl, ea, h1, sp_call rel F.len (.cons (.ins nO ea en rs) (.cons hy .nil)) (fun C fs p H' od q _ => (hne _ _ _ _ _ q).elim) f2⟩
  | _ => exact fn.elim
theorem de_ixO {a b : Expr} {pos : Pos} {ga gb : DSt → Out Dat} {k : Nat} {f : Addr} {fd : FuncData} {ps : List Str} {G : FD} {ok : Addr → Bool} (F : FnD X.prog X.w X.K X.mg X.base CX0 k f fd ps G) (hne : ∀ ds p C fs p', G ds p ≠ .ex C fs p') (hr : Room (k + 1) X.A) (hb : Binds X.K fd ps []) (hC : ∀ C, ok C = true → PySem.W.findIn X.K (.ref C) "__getitem__" = some (some (.ref f))) (hf : PySem.W.isFn X.K (.ref f) = true) (hn : PySem.W.fnIn X.K f = true)
    (ha : DE X W a ga) (hi : DE X W b gb) (hsl : ∀ x i, subscripted b true (.ref x) i = runValue (.builtin "lifetime.subscript" ⟨[.ref x, i], []⟩) := by intro _ _; with_unfolding_all rfl) : DE X W (.Subscript a b pos) (gOpP (hIxO ok G) ga gb) :=
  PE.imp (pe_ixO F.fn hr hb hC hf hn ha hi hsl) fun σ H Q t => top_readP (d2_ixO F hne) t
end
end BD
namespace BD
open PySem PySem.Spec PyProof.Rows L2
section
variable {prog : Program} {w : World} {κ : Type} [DecidableEq κ] {knd : KeyKind prog w κ} {A : Around} {E : Value → Shared → Prop} {s : Shared}
theorem wp_dictPut {d : Addr} {kvs : List (κ × Value)} {k : κ} {key v : Value} {Q : Unit → Shared → Prop} (hkey : knd.is k key = true) (hm : s.heap.DictOf knd d kvs) (hsz : kvs.length ≤ sizeLine)
    (hQ : ∀ h', h'.DictOf knd d (stored kvs k v) → Heap.SameBut d s.heap h' → Q () { s with heap := h' }) : wpAny (model prog w) A (dictPut d (knd.hash k) key v) Q E s := by
  obtain ⟨o, es, ep, ho, hc, hd, hk, hp, hn⟩ := hm
  have hes : es.size ≤ sizeLine := by
    have e1 := hp.length
    have e2 : es.toList.length = es.size := by simp
    omega
  have hidx : (kvs.findIdx? fun kv => decide (kv.1 = k)) = es.findIdx? fun e => knd.is k e.key := by
    rw [← hp.findIdx k]
    cases es
    simp
  unfold dictPut
  refine wpAny_bind (wpAny_dictFind_of hkey ho hd hk ?_)
  cases hi : es.findIdx? fun e => knd.is k e.key with
  | some i =>
    rw [hi] at hidx
    have hl : (es.toList.findIdx? fun e => knd.is k e.key) = some i := by
      rw [← hi]
      cases es
      simp
    have hst : stored kvs k v = kvs.map fun kv => if kv.1 = k then (kv.1, v) else kv := by
      rw [stored, if_pos (any_of_findIdx_some hidx)]
    refine wpAny_updateDict ho hd (hQ _ ⟨_, _, ep, Heap.get?_update_self _ ho (Obj.isFreed_of_dict (Obj.data_mapDict hd _)), hc.mapDict _, Obj.data_mapDict hd _, hk.modify _ _, ?_, ?_⟩ (Heap.SameBut.update ..))
    · rw [hst]
      have q := hp.modify hn hl v
      cases es
      simpa using q
    · rw [hst, keys_map_store]
      exact hn
  | none =>
    rw [hi] at hidx
    have hnot : k ∉ kvs.map (·.1) := not_mem_of_findIdx_none hidx
    have hst : stored kvs k v = kvs ++ [(k, v)] := by
      rw [stored, if_neg]
      intro z
      obtain ⟨kv, hkv, he⟩ := List.any_eq_true.mp z
      exact hnot (List.mem_map.mpr ⟨kv, hkv, of_decide_eq_true he⟩)
    refine wpAny_updateDictKeys (hz := hes) ho hd (hQ _ ⟨_, _, ep + 1, Heap.get?_update_self _ ho (Obj.isFreed_of_dict (Obj.data_mapDictKeys hd _)), hc.mapDictKeys _, Obj.data_mapDictKeys hd _, hk.push hkey _, ?_, ?_⟩ (Heap.SameBut.update ..))
    · rw [hst]
      have q := hp.append hkey (knd.hash k) v
      cases es
      simpa using q
    · rw [hst, List.map_append, List.nodup_append]
      refine ⟨hn, by simp, fun a ha b hb e => hnot ?_⟩
      rw [show b = k by simpa using hb] at e
      exact e ▸ ha
theorem wp_skip {α : Type} {Q : PUnit → Shared → Prop} (l : List α) (f : α → PUnit → Sem (ForInStep PUnit)) (hf : ∀ x ∈ l, f x ⟨⟩ = pure (.yield ⟨⟩)) (h : Q ⟨⟩ s) : wpAny (model prog w) A (forIn l PUnit.unit f) Q E s := by
  have e : ∀ l : List α, (∀ x ∈ l, f x ⟨⟩ = pure (.yield ⟨⟩)) → forIn l PUnit.unit f = pure ⟨⟩ := by
    intro l
    induction l with
    | nil => intro _; rfl
    | cons x r ih =>
      intro hl
      rw [List.forIn_cons, hl x (List.mem_cons_self ..), pure_bind]
      exact ih fun y hy => hl y (List.mem_cons_of_mem _ hy)
  rw [e l hf]
  exact wpAny_pure h
theorem wp_merge {d o : Addr} {kvs more : List (κ × Value)} {Q : Unit → Shared → Prop} (hdo : d ≠ o) (hoS : (o == sysModules) = false) (hd : s.heap.DictOf knd d kvs) (ho : s.heap.DictOf knd o more) (hpl : ∀ k v, knd.is k v = true → ∀ a, v ≠ .ref a) (hsz : kvs.length + more.length ≤ sizeLine)
    (hQ : ∀ h', h'.DictOf knd d (merged kvs more) → Heap.SameBut d s.heap h' → Q () { s with heap := h' }) : wpAny (model prog w) A (mergeMapping d (.ref o) false) Q E s := by
  obtain ⟨od, esd, epd, hod, hcd, hdd, hkd, hpd, hnd⟩ := id hd
  obtain ⟨oo, eso, epo, hoo, hco, hdo', hko, hpo, hno⟩ := id ho
  have hlen : more.length = eso.size := by rw [← hpo.length]; simp
  unfold mergeMapping
  refine wpAny_bind (wpAny_isInstance ho.typeIs isSubtype_dict_dict ?_)
  dsimp only
  rw [if_pos rfl]
  refine wpAny_bind (wpAny_specialOf ho.typeIs F.slot_dict_iter.lookup ?_)
  refine wpAny_bind (wpAny_pure ?_)
  simp only [beq_self_eq_true, hoS, Bool.false_eq_true, if_false]
  refine wpAny_bind (wpAny_dictEntries hod hdd ?_)
  have loop : wpAny (model prog w) A (do
      let l ← dictEntries o
      let epoch ← dictEpoch o
      let _ ← forIn (List.range l.size) PUnit.unit fun i _ => do
        let l' ← dictEntries o
        match l'[i]? with
        | some e => do
          holding [e.key, e.val] (dictPut d e.hash e.key e.val)
          let ep' ← dictEpoch o
          if (ep' != epoch) = true then do
            (unsupported "dict.changed-during-merge" : Sem PUnit)
            pure (ForInStep.yield PUnit.unit)
          else pure (ForInStep.yield PUnit.unit)
        | x => do
          (unsupported "dict.changed-during-merge" : Sem PUnit)
          pure (ForInStep.yield PUnit.unit)
      pure ()) Q E s := by
    refine wpAny_bind (wpAny_dictEntries hoo hdo' ?_)
    refine wpAny_bind (wpAny_dictEpoch hoo hdo' ?_)
    refine wpAny_bind ?_
    refine wpAny_forIn_list _ (fun rest _ s' => ∃ h' i, s' = { s with heap := h' } ∧ rest = (List.range eso.size).drop i ∧ i ≤ eso.size ∧ h'.DictOf knd d (merged kvs (more.take i)) ∧ h'.get? o = some oo ∧ Heap.SameBut d s.heap h') _ ?_ ?_ _ _ ⟨s.heap, 0, rfl, rfl, Nat.zero_le _, by simpa [merged] using hd, hoo, Heap.SameBut.refl _ _⟩
    · rintro x rest b s' ⟨h', i, rfl, hr, hi, hd', hoo', hs'⟩
      have hlt : i < eso.size := by
        by_cases h : i < eso.size
        · exact h
        · rw [List.drop_eq_nil_of_le (by simp; omega)] at hr
          cases hr
      have hr' : (List.range eso.size).drop i = i :: (List.range eso.size).drop (i + 1) := by
        rw [List.drop_eq_getElem_cons (by simpa using hlt)]
        simp
      rw [hr'] at hr
      obtain ⟨rfl, hrest⟩ := List.cons.inj hr
      refine wpAny_bind (wpAny_dictEntries hoo' hdo' ?_)
      rw [Array.getElem?_eq_getElem hlt]
      have hx : x < more.length := by omega
      have hkv : more[x]? = some more[x] := List.getElem?_eq_getElem hx
      obtain ⟨hkey, hval⟩ := hpo.get? (e := eso[x]) (by simp [hlt]) hkv
      obtain ⟨k', hkey', hhash⟩ := hko eso[x] (Array.getElem_mem hlt)
      obtain rfl : k' = more[x].1 := knd.inj _ _ _ hkey' hkey
      dsimp only
      rw [hhash, hval]
      have hmx : (merged kvs (more.take x)).length ≤ sizeLine := by
        have e1 := merged_length_le kvs (more.take x)
        have e2 : (more.take x).length ≤ more.length := by rw [List.length_take]; omega
        omega
      refine wpAny_bind (wpAny_holding (wp_dictPut hkey hd' hmx fun h2 hd2 hs2 => ?_))
      have ho2 : h2.get? o = some oo := (hs2.2 o (Ne.symm hdo)).trans hoo'
      refine wpAny_bind (wpAny_dictEpoch ho2 hdo' ?_)
      rw [if_neg (by simp)]
      exact wpAny_pure ⟨h2, x + 1, rfl, hrest, hlt, by rw [merged_take_succ kvs more x _ hkv]; exact hd2, ho2, hs'.trans hs2⟩
    · rintro b s' ⟨h', i, rfl, hr, hi, hd', hoo', hs'⟩
      have hin : i = eso.size := by
        by_cases h : i < eso.size
        · have := congrArg List.length hr
          simp at this
          omega
        · omega
      refine wpAny_pure (hQ h' ?_ hs')
      rw [hin, ← hlen, List.take_length] at hd'
      exact hd'
  by_cases hem : esd.isEmpty = true
  · rw [if_pos hem]
    refine wpAny_bind (wpAny_dictEntries hoo hdo' ?_)
    refine wpAny_bind ?_
    rw [← Array.forIn_toList]
    refine wp_skip _ _ (fun x hx => ?_) loop
    obtain ⟨k', hkey', _⟩ := hko x (by simpa using hx)
    have := hpl k' x.key hkey'
    cases e : x.key with
    | ref a => exact (this a e).elim
    | _ => rfl
  · rw [if_neg hem]
    exact loop
end
end BD
namespace BD
open PySem PySem.Spec PyProof.Rows L2
def tMrg (ta tb : TE) : TE := fun σ H Q => ∀ p, H p = none → ta σ (upd H p (.dK [])) fun x H1 => ∃ a kvs, x = .ref a ∧ Rd H1 a (.dK kvs) ∧ H1 p = some (.dK []) ∧ p ≠ a ∧
  tb σ (upd H1 p (.dK (mergeK [] kvs))) fun y H2 => ∃ b more, y = .ref b ∧ Rd H2 b (.dK more) ∧ H2 p = some (.dK (mergeK [] kvs)) ∧ p ≠ b ∧ kvs.length + more.length ≤ sizeLine ∧ Q (.ref p) (upd H2 p (.dK (mergeK (mergeK [] kvs) more)))
section
variable {X : Cx}
theorem key_noref {prog : Program} {w : World} (k : Key) (v : Value) (h : (mixKind prog w).is k v = true) (a : Addr) : v ≠ .ref a := fun z => by
  subst z
  rcases keyIs_shape h with ⟨_, _, _, e⟩ | ⟨_, _, _, e⟩ <;> cases e
theorem pe_mrg {a b : Expr} {pos : Pos} {ta tb : TE} (ha : PE X a ta) (hb : PE X b tb) : PE X (.Dict [none, none] [a, b] pos) (tMrg ta tb) := by
  refine ⟨fun pins s σ H Q I q => ?_⟩
  have hn := I.hok.fresh (Nat.le_refl s.heap.objs.size)
  have I1 := I.laid (a := s.heap.objs.size) (o := .dK []) (h' := s.heap.push { cls := .type "dict", data := .dict #[] }) (t' := s.toks) (fun _ _ q => Heap.get?_push_of_some _ q) (Nat.le_refl _) (dk_empty s.heap I.big)
  show wpAny _ _ (do
    standAt pos
    dictDisplay [(none, do let x ← eval a X.env; standAt pos; pure x), (none, do let x ← eval b X.env; standAt pos; pure x)]) _ _ _
  refine wpAny_bind (wpAny_standAt ?_)
  unfold dictDisplay
  dsimp only
  simp only [List.forIn_cons, List.forIn_nil, List.isEmpty_nil, if_true, bind_assoc, pure_bind]
  refine wpAny_bind (wpAny_alloc ?_)
  refine wpAny_bind (wpAny_holding ?_)
  refine wpAny_bind (thn (ha.run pins _ σ _ _ I1 (q _ hn)) fun u s1 ⟨x, H1, J1, rx, a1, kvs, ex, hd, hp, hne, q1⟩ => ?_)
  subst ex
  obtain rfl : u = Value.ref a1 := rx
  refine wpAny_bind (wpAny_standAt (wpAny_pure ?_))
  obtain ⟨z0, hs0, vs0, r0, d0⟩ := dk_of J1.hok hp
  cases r0
  obtain ⟨z1, hs1, vs1, r1, d1⟩ := dk_rd J1.hok hd
  have hz1 : (mergeK [] kvs).length ≤ sizeLine := by
    have h1 := length_mergeK kvs []
    simp only [List.length_nil] at h1
    omega
  refine wpAny_bind (wpAny_onRaise (wpAny_tryCatch (wpAny_onRaise (wpAny_holding (wp_merge hne hs1 d0 d1 key_noref (by simpa [← r1.length] using z1) fun h' dd hs => ?_)))))
  have J2 := d_write (t' := s1.toks) J1 (by rw [hp]; exact True.intro) hs (let ⟨q, _, _, hq, _⟩ := dd; ⟨q, hq⟩) (dk_new hz1 hs0 (r1.merge .nil) dd)
  refine wpAny_bind (wpAny_holding ?_)
  refine wpAny_bind (thn (hb.run pins _ σ _ _ J2 q1) fun u s2 ⟨y, H2, J3, ry, b1, more, ey, hd2, hp2, hne2, hsz, q2⟩ => ?_)
  subst ey
  obtain rfl : u = Value.ref b1 := ry
  refine wpAny_bind (wpAny_standAt (wpAny_pure ?_))
  obtain ⟨z2, hs2, vs2, r2, d2⟩ := dk_of J3.hok hp2
  obtain ⟨z3, hs3, vs3, r3, d3⟩ := dk_rd J3.hok hd2
  have hz2 : (mergeK (mergeK [] kvs) more).length ≤ sizeLine := by
    have h1 := length_mergeK kvs []
    have h2 := length_mergeK more (mergeK [] kvs)
    simp only [List.length_nil] at h1
    omega
  have hz3 : vs2.length + vs3.length ≤ sizeLine := by
    have h1 := length_mergeK kvs []
    simp only [List.length_nil] at h1
    rw [← r2.length, ← r3.length]
    omega
  refine wpAny_bind (wpAny_onRaise (wpAny_tryCatch (wpAny_onRaise (wpAny_holding (wp_merge hne2 hs3 d2 d3 key_noref hz3 fun h2 dd2 hs4 => ?_)))))
  have J4 := d_write (t' := s2.toks) J3 (by rw [hp2]; exact True.intro) hs4 (let ⟨q, _, _, hq, _⟩ := dd2; ⟨q, hq⟩) (dk_new hz2 hs2 (r3.merge r2) dd2)
  exact wpAny_pure ⟨.ref s.heap.objs.size, _, J4, rfl, q2⟩
end
end BD
namespace BD
open PySem PySem.Spec PyProof.Rows L2
section
variable {K : PySem.W.Frag} {P p : Addr} {ex : List Addr} {s s1 s2 : DSt} {σ σ1 : St} {H H1 H2 : Hp} {o : HO}
theorem Step.less (x : Step K P (p :: ex) σ s H σ1 s1 H1) (r : Rel K P (p :: ex) s σ H) : Step K P ex σ s H σ1 s1 H1 := by
  refine ⟨x.rel.release, ⟨fun a n u e => ?_, x.keep.2⟩, fun a ha => x.exk a (List.mem_cons_of_mem _ ha), x.own⟩
  by_cases h : a = p
  · subst h
    rw [x.exk a (List.mem_cons_self ..)]
    exact .inl e
  · refine x.keep.1 a (fun z => ?_) u e
    rcases oo_mem.mp z with z | z | z
    · exact n (oo_mem.mpr (.inl z))
    · rcases List.mem_cons.mp z with z | z
      · exact h z
      · exact n (oo_mem.mpr (.inr (.inl z)))
    · exact n (oo_mem.mpr (.inr (.inr z)))
theorem Step.poke (x : Step K P ex σ s H σ1 s1 H1) (np : H p = none) (r : Rel K P (p :: ex) s1 σ1 H1) (hl : Loose (H1 p)) : Step K P ex σ s H σ1 s1 (upd H1 p o) ∧ Rel K P (p :: ex) s1 σ1 (upd H1 p o) := by
  have r2 := r.exUpd (o := o) hl
  refine ⟨⟨r2.release, ⟨fun a n u e => ?_, x.keep.2.trans (.upd hl)⟩, fun a ha => ?_, x.own⟩, r2⟩
  · rw [upd_ne (ne_of_none e np)]
    exact x.keep.1 a n u e
  · have : a ≠ p := fun z => by
      obtain ⟨_, _, _, c4, _⟩ := r.sep
      exact (List.nodup_cons.mp c4).1 (z ▸ ha)
    rw [upd_ne this]
    exact x.exk a ha
/-- what is looked at is another thing than what is being made -/
theorem look_ne {h : Nat ⊕ Dat} {d : Dat} {v : V} {ks : List (Key × Dat)} {kvs : List (Key × V)} (r : Rel K P (p :: ex) s σ H) (hp : H p = some (.dK kvs)) (rh : RH K P (OO P (p :: ex) s σ) σ H v h) (e : look s h = some d) (ed : dicOf d = some ks) : v ≠ .ref p := by
  intro z
  subst z
  have pin : p ∈ OO P (p :: ex) s σ := oo_mem.mpr (.inr (.inl (List.mem_cons_self ..)))
  have rp : ∀ {x : Dat}, Rp K P (OO P (p :: ex) s σ) H (.ref p) x → dicOf x = some ks → False := fun {x} q e0 => by
    cases q with
    | dic n _ _ _ => exact n pin
    | bor s0 _ _ =>
      obtain ⟨o0, s0⟩ := s0
      rw [hp] at s0
      cases s0
    | _ => cases e0
  cases h with
  | inr y =>
    obtain rfl : y = d := Option.some.inj e
    exact rp rh ed
  | inl i =>
    have rh : σ[i]? = some (some (.ref p)) := rh
    have e : (match s.env[i]? with | some (.d x) => some x | some (.ol xs) => some (.lst xs) | some (.od ks) => some (.dic ks) | some (.oi _ C fs) => some (.ins C fs) | _ => none) = some d := e
    cases q : s.env[i]? with
    | none => rw [q] at e; cases e
    | some w =>
      rw [q] at e
      obtain ⟨u, e1, ok⟩ := r.slot q
      rw [rh] at e1
      obtain rfl := Option.some.inj e1
      have own : w.isO = true → False := fun hw => by
        have m := own1_sub q rh p (by simp [own1, hw])
        exact (r.sep).2.2.1 p (List.mem_cons_self ..) m
      cases w with
      | no => cases e
      | d x =>
        obtain rfl := Option.some.inj e
        obtain ⟨v', e2, z⟩ := ok
        cases e2
        exact rp z ed
      | _ => exact own rfl
end
def mergeD (ks more : List (Key × Dat)) : List (Key × Dat) := more.foldl (fun acc kv => putD acc kv.1 kv.2) ks
section
variable {K : PySem.W.Frag} {P : Addr} {O O' : List Addr} {H H' : Hp}
theorem merge_rp : ∀ {more : List (Key × V)} {ms : List (Key × Dat)} {kvs : List (Key × V)} {ks : List (Key × Dat)}, DicR K P O H more ms → DicR K P O H kvs ks → DicR K P O H (mergeK kvs more) (mergeD ks ms)
  | [], [], _, _, _, r => r
  | (k1, v) :: more, (k2, d) :: ms, kvs, ks, ⟨e, r⟩, r0 => by
    simp only [List.map_cons, List.cons.injEq] at e
    obtain ⟨e1, e2⟩ := e
    have e1 : k1 = k2 := e1
    subst e1
    cases r with
    | cons h t => exact merge_rp (more := more) (ms := ms) ⟨e2, t⟩ (put_rp (k := k1) h r0.1 r0.2)
  | [], _ :: _, _, _, ⟨e, _⟩, _ => by cases e
  | _ :: _, [], _, _, ⟨e, _⟩, _ => by cases e
end
def dicAt (s : DSt) (h : Nat ⊕ Dat) : Option (List (Key × Dat)) := (look s h).bind dicOf
def gNmrg (ga gb : DSt → Out (Nat ⊕ Dat)) : DSt → Out DV := fun s => (ga s).bind fun x s1 => match dicAt s1 x with
  | some ks => (gb s1).bind fun y s2 => match dicAt s2 y with
    | some ms => if ks.length + ms.length ≤ sizeLine then .ok (.od (mergeD (mergeD [] ks) ms)) s2 else .no
    | none => .no
  | none => .no
section
variable {X : Cx} {W : WX}
theorem XStep.less {K : PySem.W.Frag} {P p : Addr} {ex : List Addr} {s : DSt} {σ : St} {H H1 : Hp} {fs : List (Str × Dat)} {pn : Pen} {od : Option Addr} (r : Rel K P (p :: ex) s σ H) (x : XStep K P (p :: ex) σ s H H1 fs pn od) : XStep K P ex σ s H H1 fs pn od := by
  have sub : ∀ a ∈ P :: ex, a ∈ P :: p :: ex := fun a ha => by
    rcases List.mem_cons.mp ha with h | h
    · exact List.mem_cons.mpr (.inl h)
    · exact List.mem_cons_of_mem _ (List.mem_cons_of_mem _ h)
  refine ⟨⟨fun a n u e => ?_, x.keep.2⟩, fun a ha => x.exk a (List.mem_cons_of_mem _ ha), x.pen.anti sub, ?_⟩
  · by_cases h : a = p
    · subst h
      rw [x.exk a (List.mem_cons_self ..)]
      exact .inl e
    · refine x.keep.1 a (fun z => ?_) u e
      rcases oo_mem.mp z with z | z | z
      · exact n (oo_mem.mpr (.inl z))
      · rcases List.mem_cons.mp z with z | z
        · exact h z
        · exact n (oo_mem.mpr (.inr (.inl z)))
      · exact n (oo_mem.mpr (.inr (.inr z)))
  · rcases x.err with h | ⟨d, vfs, h1, h2, h3, h4⟩
    · exact .inl h
    · exact .inr ⟨d, vfs, h1, h2, h3, h4.anti sub⟩
/-- the reading of something that is made, from the very state -/
def FinN (K : PySem.W.Frag) (P : Addr) (ex : List Addr) (W : WX) (σ : St) (s : DSt) (H : Hp) (Q : V → Hp → Prop) (o : Out DV) : Prop := match o with
  | .ok dv s' => ∀ H' v, Step K P ex σ s H (σ ++ [some v]) { s' with env := s'.env ++ [dv] } H' → Q v H'
  | .ex C fs p => ∀ H' od, XStep K P ex σ s H H' fs p od → W (.ref C) od σ H'
  | .no => False
/-- a part of what is being made at p: from the state x behind the beginning -/
theorem part {α β : Type} {R : RR α β} {g : DSt → Out α} {k : α → DSt → Out DV} {K : PySem.W.Frag} {P p : Addr} {ex : List Addr} {s s1 : DSt} {σ : St} {H H1 : Hp} {Q1 : β → Hp → Prop} {Q : V → Hp → Prop} (x : Step K P ex σ s H σ s1 H1) (r1 : Rel K P (p :: ex) s1 σ H1) (f : FinN K P ex W σ s H Q ((g s1).bind k))
    (h : ∀ a s2 H2 b, Step K P ex σ s H σ s2 H2 → Step K P (p :: ex) σ s1 H1 σ s2 H2 → R P (OO P (p :: ex) s2 σ) σ H2 b a → FinN K P ex W σ s H Q (k a s2) → Q1 b H2) : tG K R W g σ H1 Q1 := by
  refine ⟨P, p :: ex, s1, r1, ?_⟩
  cases e : g s1 with
  | ok a s2 =>
    rw [e] at f
    exact fun H2 b st r => h a s2 H2 b (x.trans (st.less r1)) st r f
  | ex C fs pn =>
    rw [e] at f
    exact fun H2 od y => f H2 od ((XStep.less r1 y).back x)
  | no =>
    rw [e] at f
    exact f
theorem dn_mrg {a b : Expr} {pos : Pos} {ga gb : DSt → Out (Nat ⊕ Dat)} (ha : DH X W a ga) (hb : DH X W b gb) : DN X W (.Dict [none, none] [a, b] pos) (gNmrg ga gb) := PE.imp (pe_mrg ha hb) fun σ H Q ⟨P, ex, s, rel, f⟩ => by
  intro p np
  have f : FinN X.K P ex W σ s H Q (gNmrg ga gb s) := f
  unfold gNmrg at f
  refine part (p := p) (Step.new rel np) (rel.exNew np) f fun hx s1 H1 v x1 y1 rv f1 => ?_
  cases e1 : look s1 hx with
  | none => simp only [dicAt, e1, Option.bind_none] at f1; exact f1.elim
  | some dx =>
    cases e2 : dicOf dx with
    | none => simp only [dicAt, e1, Option.bind_some, e2] at f1; exact f1.elim
    | some ks =>
      simp only [dicAt, e1, Option.bind_some, e2] at f1
      have hp1 : H1 p = some (.dK []) := (y1.exk p (List.mem_cons_self ..)).trans upd_same
      have ne1 := look_ne y1.rel hp1 rv e1 e2
      obtain ⟨a1, kvs, rfl, hd, hk, rk⟩ := vw_dic (look_vw y1.rel rv e1) e2
      have d1 : DicR X.K P (OO P (p :: ex) s1 σ) H1 kvs ks := ⟨hk, rk⟩
      refine ⟨a1, kvs, rfl, hd, hp1, fun z => ne1 (by rw [z]), ?_⟩
      obtain ⟨x2, r2⟩ := x1.poke (o := .dK (mergeK [] kvs)) np y1.rel (.dK hp1)
      have kp2 : Kp (OO P (p :: ex) s1 σ) H1 (upd H1 p (.dK (mergeK [] kvs))) := .updO (oo_mem.mpr (.inr (.inl (List.mem_cons_self ..)))) (.dK hp1)
      have d2 := (merge_rp d1 (show DicR X.K P (OO P (p :: ex) s1 σ) H1 [] [] from ⟨rfl, .nil⟩)).kr kp2.kr
      refine part x2 r2 f1 fun hy s2 H2 v2 x3 y3 rv2 f2 => ?_
      cases e3 : look s2 hy with
      | none => simp only [dicAt, e3, Option.bind_none] at f2; exact f2.elim
      | some dy =>
        cases e4 : dicOf dy with
        | none => simp only [dicAt, e3, Option.bind_some, e4] at f2; exact f2.elim
        | some ms =>
          simp only [dicAt, e3, Option.bind_some, e4] at f2
          have hp2 : H2 p = some (.dK (mergeK [] kvs)) := (y3.exk p (List.mem_cons_self ..)).trans upd_same
          have ne2 := look_ne y3.rel hp2 rv2 e3 e4
          obtain ⟨b1, more, rfl, hd2, hk2, rk2⟩ := vw_dic (look_vw y3.rel rv2 e3) e4
          have l1 : kvs.length = ks.length := by simpa using congrArg List.length hk
          have l2 : more.length = ms.length := by simpa using congrArg List.length hk2
          by_cases hs : ks.length + ms.length ≤ sizeLine
          case neg => rw [if_neg hs] at f2; exact f2.elim
          rw [if_pos hs] at f2
          refine ⟨b1, more, rfl, hd2, hp2, fun z => ne2 (by rw [z]), by omega, ?_⟩
          obtain ⟨x4, r4⟩ := x3.poke (o := .dK (mergeK (mergeK [] kvs) more)) np y3.rel (.dK hp2)
          have kp4 : Kp (OO P (p :: ex) s2 σ) H2 (upd H2 p (.dK (mergeK (mergeK [] kvs) more))) := .updO (oo_mem.mpr (.inr (.inl (List.mem_cons_self ..)))) (.dK hp2)
          have d4 := (merge_rp (show DicR X.K P (OO P (p :: ex) s2 σ) H2 more ms from ⟨hk2, rk2⟩) (d2.kr y3.kr)).kr kp4.kr
          exact f2 _ _ (DcEnd.push ⟨x4, r4, np, _, upd_same, d4⟩)
end
end BD
namespace BD
open PySem PySem.Spec PyProof.Rows L2
open PySem.Froz (SD sObj addTx tailTx TxOk)
/-- a set's payload: the texts l, each once; it can be walked -/
structure TxR (P : Program) (w : World) (D : SD) (l : List Str) : Prop where
  ok : TxOk P w D l
  ris : Ris D.2.2.place.toList
  led : w.params.followText "set-order" = true ∨ D.2.2.led = true
  nd : l.Nodup
  str : ∀ e ∈ D.1.toList, ∃ k t, e.2 = Value.str k t
section
variable {P : Program} {w : World} {A : Around} {E : Value → Shared → Prop} {s : Shared}
theorem tail_ris (ep : Nat) (es : Array (Int × Value)) (t : SetTable) (b : Bool) (h : Ris t.place.toList) : Ris (tailTx ep es t b).2.2.place.toList := by
  unfold tailTx
  split
  · exact relayAll_ris ..
  · exact h
theorem tail_led (ep : Nat) (es : Array (Int × Value)) (t : SetTable) (b : Bool) : (tailTx ep es t b).2.2.led = t.led := by
  unfold tailTx
  split
  · exact relayAll_led ..
  · rfl
theorem TxR.add {D : SD} {l : List Str} {k : Str} (u : Tok) (F : TxR P w D l) (hk : k ∉ l) : TxR P w (addTx (hashStr w k) (.str k u) D) (k :: l) := by
  have ok := PySem.Froz.add_ok (P := P) u F.ok (k := k)
  refine ⟨ok, ?_, ?_, List.nodup_cons.mpr ⟨hk, F.nd⟩, fun e he => ?_⟩
  · unfold addTx
    refine tail_ris _ _ _ _ ?_
    split
    · exact layNew_ris _ _ _ _ F.ris
    · exact layNew_ris _ _ _ _ F.ris
  · refine F.led.imp id fun z => ?_
    unfold addTx
    rw [tail_led]
    split
    · exact (layNew_led ..).trans z
    · exact (layNew_led ..).trans z
  · obtain ⟨⟨k', h1, _⟩, _⟩ := ok.el e he
    have : ∃ t, e.2 = Value.str k' t := by
      have q : Value.isStrOf k' e.2 = true := h1
      obtain ⟨t, et⟩ := Value.isStrOf_shape q
      exact ⟨t, et⟩
    exact ⟨k', this⟩
theorem add_r {a : Addr} {D : SD} {l : List Str} {k : Str} {u : Tok} {Q : Bool → Shared → Prop} (ho : s.heap.get? a = some (sObj "set" D)) (F : TxR P w D l) (hb : l.length + 1 < scanBound)
    (h : ∀ b h' D' l', Heap.SameBut a s.heap h' → h'.get? a = some (sObj "set" D') → TxR P w D' l' → (∀ x, x ∈ l' ↔ x = k ∨ x ∈ l) → l'.length ≤ l.length + 1 → Q b { s with heap := h' }) : wpAny (model P w) A (setAddHashed a (.str k u) (hashStr w k)) Q E s := by
  by_cases hk : k ∈ l
  · obtain ⟨es, ep, t⟩ := D
    have hd : (sObj "set" (es, ep, t)).data = .set es ep t := rfl
    have hf : t.fits es.size = true := F.ok.fit
    have hel : ElemsOf (strKind P w) es.toList := F.ok.el
    have hsz : es.size = l.length := F.ok.sz
    obtain ⟨e, he, hke⟩ := (F.ok.mem k).mp hk
    unfold setAddHashed setAddHashedIn
    refine wpAny_holding ?_
    refine wpAny_bind (wpAny_setState_of ho hd hf ?_)
    dsimp only
    rw [byScan_of rfl (by omega) hel, if_pos rfl]
    unfold setAddByScan
    refine wpAny_bind (wpAny_bind (wpAny_rule (wpAny_bind (wpAny_setScan_of (knd := strKind P w) (k := k) (PySem.Froz.is_str k u) ho hd hf hel ?_))))
    cases hi : es.toList.findIdx? (fun e => (strKind P w).is k e.2) with
    | none =>
      have := List.findIdx?_eq_none_iff.mp hi e he
      rw [hke] at this
      cases this
    | some j =>
      dsimp only
      exact wpAny_pure (wpAny_pure (h _ s.heap _ l (Heap.SameBut.refl _ _) ho F (fun x => ⟨.inr, fun z => z.elim (fun e => e ▸ hk) id⟩) (Nat.le_succ _)))
  · refine PySem.Froz.add_x ho F.ok hk hb ?_
    refine h _ _ _ (k :: l) (Heap.SameBut.update ..) (PySem.Froz.get_upd _ ho rfl) (F.add u hk) (fun x => List.mem_cons) (Nat.le_refl _)
theorem set_signs {I : Addr} {fp wr : List Addr} {G : Array GenState → Array GenState → Prop} {n : Nat} {St : Nat → Shared → Prop} {R : Result → Shared → Prop} {z : Str}
    (W : WalksS P w A.in1 I fp wr G n (SignAt z) St) (S : Addr) (hSf : S ∉ fp) (hn : n = z.cps.size) (hb : n + 1 < scanBound) : ∀ (k i : Nat) (s : Shared), n - i = k → i ≤ n → St i s →
      (∃ D l, l.length ≤ i ∧ s.heap.get? S = some (sObj "set" D) ∧ TxR P w D l ∧ ∀ x : Str, x ∈ l ↔ ∃ c ∈ z.cps.toList.take i, x = ⟨#[c]⟩) →
      (∀ s' D l, Moved (S :: wr) G s s' → s'.heap.get? S = some (sObj "set" D) → TxR P w D l → l.length ≤ n → (∀ x : Str, x ∈ l ↔ ∃ c ∈ z.cps.toList, x = ⟨#[c]⟩) → R (.ok (.ret .none)) s') →
      codeAny (model P w) A (.builtin "set.update.loop" ⟨[.ref S, .ref I], []⟩) R s := by
  have hSw : S ∉ wr := fun h => hSf (W.sub _ h)
  have hsub : ∀ b ∈ wr, b ∈ S :: wr := fun b hb => List.mem_cons_of_mem _ hb
  intro k
  induction k with
  | zero =>
    rintro i s hk hi hst ⟨D, l, hl, hS, T, hm⟩ hR
    obtain rfl : i = n := by omega
    refine codeAny_builtin F.entry_set_update_loop ?_
    rw [Around.under_plainId F.plain_set_update_loop _]
    refine wpAny_bind (m := pyNext (.ref I)) (W.done s _ _ hst fun s' mv => ?_)
    refine wpAny_pure (hR s' D l (mv.mono hsub) (mv.heap S _ hSw hS) T hl fun x => ?_)
    rw [hm x, List.take_of_length_le (by simp [hn])]
  | succ k ih =>
    rintro i s hk hi hst ⟨D, l, hl, hS, T, hm⟩ hR
    have hlt : i < n := by omega
    refine codeAny_builtin F.entry_set_update_loop ?_
    rw [Around.under_plainId F.plain_set_update_loop _]
    refine wpAny_bind (m := pyNext (.ref I)) (W.item i s _ _ hlt hst fun v s1 hP hst1 mv => ?_)
    obtain ⟨c, t, hc, rfl⟩ := hP
    have hS1 := mv.heap S _ hSw hS
    refine wpAny_bind (m := holding [Value.str ⟨#[c]⟩ t] (setAdd S (.str ⟨#[c]⟩ t))) (wpAny_holding ?_)
    unfold setAdd
    refine wpAny_holding (wpAny_bind ((strKind P w).pyHash (k := ⟨#[c]⟩) (PySem.Froz.is_str _ _) ?_))
    refine add_r (s := { s1 with toks := s1.toks + 1 }) hS1 T (by omega) fun b h2 D2 l2 sb e2 T2 m2 len2 => ?_
    refine wpAny_pure ⟨plainId_quiet F.plain_set_update_loop _, ih (i + 1) _ (by omega) hlt (W.frame _ s1 _ _ hst1 (Nat.le_succ _) fun b hb o e => ?_) ⟨D2, l2, by omega, e2, T2, fun x => ?_⟩ fun s3 D3 l3 mv3 => hR s3 D3 l3 (Moved.trans W.gtrans ((mv.mono hsub).then_heap (Nat.le_succ _) fun b o hb e => ?_) mv3)⟩
    · rw [sb.2 b (fun h : b = S => hSf (h ▸ hb))]
      exact e
    · have hc' : z.cps.toList[i]? = some c := by simpa using hc
      rw [m2 x, hm x, List.take_add_one, hc']
      simp only [Option.toList_some, List.mem_append, List.mem_singleton]
      constructor
      · rintro (rfl | ⟨d, hd, rfl⟩)
        · exact ⟨c, .inr rfl, rfl⟩
        · exact ⟨d, .inl hd, rfl⟩
      · rintro ⟨d, hd | rfl, rfl⟩
        · exact .inr ⟨d, hd, rfl⟩
        · exact .inl rfl
    · rw [sb.2 b (fun h : b = S => hb (h ▸ List.mem_cons_self ..))]
      exact e
/-- the new, empty set -/
def set0 (w : World) : Obj := sObj "set" (#[], 0, .fresh 0 0 (!w.params.followText "set-order"))
theorem txr0 : TxR P w (#[], 0, .fresh 0 0 (!w.params.followText "set-order")) [] := by
  refine ⟨.nil rfl, ?_, ?_, List.nodup_nil, fun e he => by simp at he⟩
  · exact List.Pairwise.nil
  · show _ ∨ (!w.params.followText "set-order") = true
    cases w.params.followText "set-order"
    · exact .inr rfl
    · exact .inl rfl
theorem call_set_str {x : Str} {u : Tok} {Q : Value → Shared → Prop} (hh : A.handled = none) (hb : x.cps.size + 1 < scanBound)
    (h : ∀ (h' : Heap) (tk : Nat) D l, h'.get? s.heap.objs.size = some (sObj "set" D) → TxR P w D l → l.length ≤ x.cps.size → (∀ y : Str, y ∈ l ↔ ∃ c ∈ x.cps.toList, y = ⟨#[c]⟩) → (∀ b o, s.heap.get? b = some o → h'.get? b = some o) → Q (.ref s.heap.objs.size) { s with heap := h', toks := tk }) :
    wpAny (model P w) A (call (.type "set") [.str x u]) Q E s := by
  obtain ⟨c0, tl, hmro⟩ := F.called_set.mro
  have hmade := F.called_set.made
  have hsub := F.called_set.sub
  refine wpAny_call (codeAny_of_tree ?_)
  refine wpAny_pure ⟨Code.quiet_builtin _ (by decide +kernel), codeAny_builtin F.entry_type_call ?_⟩
  rw [Around.under_plain (weight_type_call_type "set" [.str x u] []) rfl]
  have h1 := F.called_set.notType
  have h2 := F.called_set.canCreate
  have hct := F.typeCall_set_1 (.str x u)
  repeat (any_goals (first | assumption | wp_step))
  refine codeAny_mono (code_set_led1 (.str x u) (E := E) (Q₁ := fun obj s₁ => obj = .ref s.heap.objs.size ∧ s₁ = { s with heap := s.heap.push (set0 w) }) ⟨rfl, rfl⟩) fun r s₁ hr => ?_
  cases r with
  | error e => exact hr
  | ok fl =>
    cases fl with
    | ret obj =>
      obtain ⟨rfl, rfl⟩ := hr
      have hS : (s.heap.push (set0 w)).get? s.heap.objs.size = some (set0 w) := Heap.get?_push_size _ rfl
      have hT : Shared.TypeIs { s with heap := s.heap.push (set0 w) } (.ref s.heap.objs.size) "set" := ⟨_, hS, rfl⟩
      have hli := F.called_set.init.lookup
      have hbi := F.called_set.init.bind (.ref s.heap.objs.size)
      repeat (any_goals (first | assumption | wp_step))
      refine codeAny_mono (codeAny_call_builtin (R := wants (fun r s₂ => r = .none ∧ ∃ h' tk D l, s₂ = { s with heap := h', toks := tk } ∧ h'.get? s.heap.objs.size = some (sObj "set" D) ∧ TxR P w D l ∧ l.length ≤ x.cps.size ∧ (∀ y : Str, y ∈ l ↔ ∃ c ∈ x.cps.toList, y = ⟨#[c]⟩) ∧ ∀ b o, s.heap.get? b = some o → h'.get? b = some o) E) F.called_set.init.plain F.entry_set_init (check_set_init_1 hT ?_)) fun r₂ s₂ hr₂ => ?_
      · have hsls := F.sub_str_set
        have hslf := F.sub_str_frozenset
        have hne : (Value.type "str" == Value.type "dict") = false := by decide
        unfold Builtin.«set.__init__» noKeywords Builtin.Frozenset.updateFrom
        generalize hPI : pyIter = PI
        wp_walk
        subst hPI
        refine wpAny_pyIter_str fun o St W hst => ?_
        refine wpAny_bind (wpAny_runValue ?_)
        have hh3 : A.in1.in1.in1.handled = none := by simp [hh]
        have z1 : (s.heap.push (set0 w)).objs.size = s.heap.objs.size + 1 := Heap.size_push ..
        have hSf : s.heap.objs.size ∉ [(s.heap.push (set0 w)).objs.size] := by
          rw [z1]
          simp
        have e0 : ((s.heap.push (set0 w)).push o).get? s.heap.objs.size = some (set0 w) := Heap.get?_push_of_some _ hS
        refine set_signs ((W _ hh3).toS) s.heap.objs.size hSf rfl hb x.cps.size 0 _ (by omega) (Nat.zero_le _) hst ⟨_, [], Nat.le_refl _, e0, txr0, fun y => by simp⟩ fun s' D l mv e T len hm => ?_
        obtain ⟨h', g2, d', tk', os'⟩ := s'
        obtain rfl : g2 = s.gens := mv.gens
        obtain rfl : d' = s.drawn := mv.drawn
        obtain rfl : os' = s.os := mv.os
        refine wpAny_pure (wpAny_pure ⟨rfl, h', tk', D, l, rfl, e, T, len, hm, fun b ob eb => ?_⟩)
        have hb0 : b < s.heap.objs.size := Heap.lt_size eb
        refine mv.heap b ob ?_ (Heap.get?_push_of_some _ (Heap.get?_push_of_some _ eb))
        simp only [List.mem_cons, List.not_mem_nil, or_false, not_or, z1]
        exact ⟨Nat.ne_of_lt hb0, Nat.ne_of_lt (Nat.lt_succ_of_lt hb0)⟩
      · cases r₂ with
        | error e => exact hr₂
        | ok fl₂ =>
          cases fl₂ with
          | ret r =>
            obtain ⟨rfl, h', tk, D, l, rfl, e, T, len, hm, hk⟩ := hr₂
            repeat (any_goals (first | assumption | wp_step))
            exact h _ _ D l e T len hm hk
          | _ => exact hr₂.elim
    | _ => exact hr.elim
end
end BD
namespace BD
open PySem PySem.Spec PyProof.Rows L2
open PySem.Froz (SD sObj addTx tailTx TxOk)
theorem perm_sub {α : Type} [DecidableEq α] : ∀ {l m : List α}, l.Nodup → (∀ x ∈ l, x ∈ m) → m.length ≤ l.length → l.Perm m
  | [], m, _, _, h => by
    have : m = [] := List.length_eq_zero_iff.mp (Nat.le_zero.mp h)
    rw [this]
  | x :: r, m, nd, sub, h => by
    have hx := sub x (List.mem_cons_self ..)
    have p := List.perm_cons_erase hx
    rw [List.nodup_cons] at nd
    have q : r.Perm (m.erase x) := perm_sub nd.2 (fun y hy => (List.mem_erase_of_ne (a := y) (b := x) fun e => nd.1 (e ▸ hy)).mpr (sub y (List.mem_cons_of_mem _ hy))) (by
      rw [List.length_erase_of_mem hx]
      simp only [List.length_cons] at h
      omega)
    exact (q.cons x).trans p.symm
section
variable {P : Program} {w : World} {A : Around} {E : Value → Shared → Prop} {s : Shared}
theorem sorted_setS {a : Addr} {D : SD} {l : List Str} {Q : Value → Shared → Prop} (ho : s.heap.get? a = some (sObj "set" D)) (T : TxR P w D l) (hh : A.handled = none) (hb : l.length < scanBound) (hz : l.length ≤ sizeLine)
    (hQ : ∀ s' p (out : Array Value) (c : Nat) (ys : List Str), (∀ b o, s.heap.get? b = some o → s'.heap.get? b = some o) → s'.gens = s.gens → s'.os = s.os → s.heap.objs.size ≤ p → s'.heap.get? p = some (seqObj "list" out c) → StrsAre out.toList ys → ys.Perm l → sortedS ys = true → Q (.ref p) s') :
    wpAny (model P w) A (call (.builtin "sorted") [.ref a]) Q E s := by
  obtain ⟨es, ep, t⟩ := D
  have hsz : es.size = l.length := T.ok.sz
  refine Calls.call_function_entry kind_sorted plain_sorted entry_sorted (args_sorted1 _) ?_
  unfold Builtin.«sorted»
  refine wpAny_bind (m := checkCount "sorted" 1 1 _) (wpAny_pure ?_)
  refine wpAny_bind (collect_set (A := A.in1) hh ⟨_, ho, rfl, rfl⟩ T.ok.fit (show es.size < scanBound by omega) T.ris T.led fun s1 vs k1 hz1 g1 o1 pm => ?_)
  have hvl : vs.length = l.length := by rw [pm.length_eq, List.length_map, Array.length_toList, hsz]
  have hS : StrsAre vs (vs.map strOf) := strsAre_map vs fun v hv => by
    obtain ⟨e, he, q⟩ := List.mem_map.mp (pm.mem_iff.mp hv)
    obtain ⟨k, u, h1⟩ := T.str e he
    exact ⟨k, u, by rw [← q]; exact h1⟩
  have key : ∀ e ∈ es.toList, (strKind P w).is (strOf e.2) e.2 = true := fun e he => by
    obtain ⟨k, u, h1⟩ := T.str e he
    rw [h1]
    exact PySem.Froz.is_str k u
  have sub : ∀ x ∈ l, x ∈ vs.map strOf := fun x hx => by
    obtain ⟨e, he, q⟩ := (T.ok.mem x).mp hx
    have e1 : strOf e.2 = x := (strKind P w).inj _ _ _ (key e he) q
    exact List.mem_map.mpr ⟨e.2, pm.mem_iff.mpr (List.mem_map.mpr ⟨e, he, rfl⟩), e1⟩
  have pl : (vs.map strOf).Perm l := by
    refine (perm_sub T.nd sub ?_).symm
    rw [List.length_map, hvl]
    exact Nat.le_refl _
  refine wpAny_bind (wpAny_newList ?_ (by omega))
  have hoL : (s1.heap.push (seqObj "list" vs.toArray 0)).get? s1.heap.objs.size = some (seqObj "list" vs.toArray 0) := Heap.get?_push_size _ rfl
  refine wpAny_bind (wpAny_holding (wpAny_call_entry slot_list_sort ⟨_, hoL, rfl⟩ entry_list_sort (list_sort_treeKAny strKind_oneLt hoL hS.keysOf (fun v₁ v₂ rest e => keyKind_strs (by rw [← e]; exact hS)) (by omega) fun st' hp hs => ?_) (args_list_sort _)))
  obtain ⟨ys, h1, h2, h3⟩ := sorted_out_str hS hp hs
  refine ⟨_, rfl, ?_⟩
  obtain ⟨c, hc⟩ := sortedHeap_at (vs := vs) (out := (arrOf st').map (·.2)) hoL
  refine wpAny_pure ⟨_, rfl, hQ _ s1.heap.objs.size _ c ys (fun b u e => ?_) g1 o1 hz1 hc h1 (h2.trans pl) h3⟩
  have q := k1 b u e
  have hlt := Heap.lt_size q
  show (sortedHeap (s1.heap.push (seqObj "list" vs.toArray 0)) s1.heap.objs.size vs _).get? b = some u
  rw [sortedHeap_old (Nat.ne_of_lt hlt) (by rw [size_push']; exact Nat.lt_succ_of_lt hlt)]
  exact Heap.get?_push_of_some _ q
end
def SetSO (P : Program) (w : World) (a : Addr) (l : List Str) : HO := .ext fun h => ∃ D, h.get? a = some (sObj "set" D) ∧ TxR P w D l
section
variable {X : Cx} {W : WX}
theorem setSO_new {P : Program} {w : World} {H : Hp} {h : Heap} {a : Addr} {D : SD} {l : List Str} (e : h.get? a = some (sObj "set" D)) (T : TxR P w D l) : ObjOk P w H h a (SetSO P w a l) :=
  ⟨⟨D, e, T⟩, ⟨_, e⟩, fun h1 h2 ⟨D', e', T'⟩ k => ⟨D', k _ e', T'⟩⟩
def isSigns (z : Str) (l : List Str) : Prop := l.Nodup ∧ (∀ y : Str, y ∈ l ↔ ∃ c ∈ z.cps.toList, y = ⟨#[c]⟩) ∧ l.length ≤ z.cps.size
theorem cr_setS (hc : X.calm = true) : CallR X (.type "set") (fun xs H Q => ∃ z, xs = [.str z] ∧ z.cps.size + 1 < scanBound ∧ ∀ p l, H p = none → isSigns z l → Q (.ref p) (upd H p (SetSO X.prog X.w p l))) := by
  intro pins s σ H xs us Q I r q
  obtain ⟨z, rfl, hb, q⟩ := q
  obtain ⟨u, rfl, rx⟩ := vals1 r
  obtain ⟨t, rfl⟩ := rx
  refine call_set_str (I.ok.hd hc) hb fun h' tk D l e T len hm k => ?_
  exact ⟨.ref s.heap.objs.size, _, I.laid k (Nat.le_refl _) (setSO_new e T), rfl, q _ l (I.hok.fresh (Nat.le_refl _)) ⟨T.nd, hm, len⟩⟩
theorem cr_sortedSS (hc : X.calm = true) : CallR X (.builtin "sorted") (fun xs H Q => ∃ a l, xs = [.ref a] ∧ H a = some (SetSO X.prog X.w a l) ∧ l.length < scanBound ∧ l.length ≤ sizeLine ∧ ∀ ys p, ys.Perm l → sortedS ys = true → H p = none → Q (.ref p) (upd H p (.lst (ys.map V.str)))) := by
  intro pins s σ H xs us Q I r q
  obtain ⟨a, l, rfl, ha, hb, hz, q⟩ := q
  obtain ⟨D, e, T⟩ := (I.hok a _ ha).1
  rw [Vals.ref1 r]
  refine sorted_setS e T (I.ok.hd hc) hb hz fun s' p out c ys k g o hp hg hs pm so => ?_
  have hlen : (ys.map V.str).length ≤ sizeLine := by rw [List.length_map, pm.length_eq]; exact hz
  have hn : H p = none := I.hok.fresh hp
  have J : Inv X pins σ (upd H p (.lst (ys.map V.str))) { s with heap := s'.heap, gens := s'.gens, drawn := s'.drawn, toks := s'.toks } :=
    I.call (ch := []) (Un.laid k hp hn) (I.hok.laid k hp ⟨hlen, out.toList, c, vals_of_strs hs, hg⟩) (by rw [g]; exact I.bare) (fun _ z => nomatch z)
  have e' : s' = { s with heap := s'.heap, gens := s'.gens, drawn := s'.drawn, toks := s'.toks } := by
    cases s'
    cases s
    cases o
    rfl
  rw [e']
  exact ⟨.ref p, _, J, rfl, q ys p pm so hn⟩
def uniq : List Nat → List Nat
  | [] => []
  | c :: r => if c ∈ uniq r then uniq r else c :: uniq r
theorem uniq_mem : ∀ (l : List Nat) (c : Nat), c ∈ uniq l ↔ c ∈ l
  | [], c => Iff.rfl
  | d :: r, c => by
    unfold uniq
    split
    · rename_i h
      rw [uniq_mem r c, List.mem_cons]
      constructor
      · exact .inr
      · rintro (rfl | z)
        · exact (uniq_mem r c).mp h
        · exact z
    · rw [List.mem_cons, List.mem_cons, uniq_mem r c]
theorem uniq_nodup : ∀ l : List Nat, (uniq l).Nodup
  | [] => List.nodup_nil
  | d :: r => by
    unfold uniq
    split
    · exact uniq_nodup r
    · rename_i h
      exact List.nodup_cons.mpr ⟨h, uniq_nodup r⟩
def signS (z : Str) : List Str := sortS ((uniq z.cps.toList).map fun c => ⟨#[c]⟩)
theorem signS_of {z : Str} {l ys : List Str} (h : isSigns z l) (p : ys.Perm l) (so : sortedS ys = true) : ys = signS z := by
  refine sortS_of (p.trans ?_) so
  obtain ⟨nd, hm, _⟩ := h
  have nd2 : ((uniq z.cps.toList).map fun c => (⟨#[c]⟩ : Str)).Nodup := by
    refine List.Pairwise.map _ (fun a b hab e => hab ?_) (uniq_nodup _)
    have e : (#[a] : Array Nat) = #[b] := congrArg Str.cps e
    simpa using e
  refine List.perm_iff_count.mpr fun x => ?_
  have c1 : ∀ {m : List Str}, m.Nodup → m.count x = if x ∈ m then 1 else 0 := fun {m} hn => by
    split
    · rename_i hx
      have h1 := List.nodup_iff_count.mp hn x
      have h2 := List.count_pos_iff.mpr hx
      omega
    · rename_i hx
      exact List.count_eq_zero.mpr hx
  rw [c1 nd, c1 nd2]
  have : x ∈ l ↔ x ∈ (uniq z.cps.toList).map fun c => (⟨#[c]⟩ : Str) := by
    rw [hm x, List.mem_map]
    constructor
    · rintro ⟨c, hc, rfl⟩
      exact ⟨c, (uniq_mem _ _).mpr hc, rfl⟩
    · rintro ⟨c, hc, rfl⟩
      exact ⟨c, (uniq_mem _ _).mp hc, rfl⟩
  by_cases hx : x ∈ l
  · rw [if_pos hx, if_pos (this.mp hx)]
  · rw [if_neg hx, if_neg fun q => hx (this.mpr q)]
def gSoSe (g : DSt → Out Dat) : DSt → Out Dat := fun s => (g s).bind fun d s1 => match d with
  | .str z => if z.cps.size + 1 < scanBound ∧ z.cps.size ≤ sizeLine then .ok (.lst ((signS z).map .str)) s1 else .no
  | _ => .no
theorem de_soSe {e : Expr} {p1 p2 q1 q2 : Pos} {g : DSt → Out Dat} (hc : X.calm = true) (he : DE X W e g) (hg : Gl X "set") (hm : X.mg "set" = none) (hg2 : Gl X "sorted") (hm2 : X.mg "sorted" = none)
    (h1 : starEach (e :: []) X.env = (false, eval e X.env) :: starEach [] X.env := by rfl)
    (h2 : starEach (Expr.Call (.Name "set" p1) [e] [] p2 :: []) X.env = (false, eval (.Call (.Name "set" p1) [e] [] p2) X.env) :: starEach [] X.env := by rfl) (k1 : (backTo p2 (starEach [] X.env)).any (·.1) = false := by rfl) (k2 : (backTo q2 (starEach [] X.env)).any (·.1) = false := by rfl) :
    DE X W (.Call (.Name "sorted" q1) [.Call (.Name "set" p1) [e] [] p2] [] q2) (gSoSe g) :=
  PE.imp (pe_callB (cr_sortedSS hc) hg2 hm2 (by decide +kernel) (pa_cons (pe_callTy (cr_setS hc) hg hm (by decide +kernel) (pa_cons he pa_nil h1) (by decide) (by decide) h1 k1) pa_nil h2) (by decide) (by decide) h2 k2) fun σ H Q ⟨P, ex, s, rel, f⟩ => by
    unfold gSoSe at f
    refine tG_seq rel f fun d s1 H1 v st rv f1 => ?_
    have rv : Rp X.K P (OO P ex s1 σ) H1 v d := rv
    cases rv with
    | str z =>
      obtain ⟨⟨h1, h2⟩, f2⟩ := Fin.if f1
      refine ⟨z, rfl, h1, fun p l np il => ?_⟩
      have hl := il.2.2
      refine ⟨p, l, rfl, upd_same, by omega, by omega, fun ys q pm so nq => ?_⟩
      rw [signS_of il pm so]
      have st2 : Step X.K P ex σ s1 H1 σ s1 (upd H1 p (SetSO X.prog X.w p l)) := .new st.rel np
      have st3 := st2.trans (Step.new (o := .lst ((signS z).map V.str)) st2.rel nq)
      exact fin_step f2 st3 (.lst ⟨st2.rel.fresh nq, upd_same⟩ (rps_strs _))
    | _ => exact f1.elim
end
end BD
namespace BD
open PySem PySem.Spec PyProof.Rows L2
section
variable {X : Cx} {W : WX}
def hInT (n : Bool) : Dat → Dat → DSt → Out Dat := fun a b s => match a, b with
  | .str x, .str z => match x.cps.toList with
    | [c] => .ok (.bl (if n then !decide (c ∈ z.cps.toList) else decide (c ∈ z.cps.toList))) s
    | _ => .no
  | _, _ => .no
theorem d2_inT {n : Bool} : D2 X W (fun x y H Q => ∃ (c : Nat) (z : Str), x = .str ⟨#[c]⟩ ∧ y = .str z ∧ Q (.bl (if n then !decide (c ∈ z.cps.toList) else decide (c ∈ z.cps.toList))) H) (hInT n) := fun P ex s σ H x y dx dy Q rel hx hy f => by
  cases dx with
  | str i =>
    cases dy with
    | str j =>
      cases (show Rp X.K P (OO P ex s σ) H x (.str i) from hx)
      cases (show Rp X.K P (OO P ex s σ) H y (.str j) from hy)
      unfold hInT at f
      dsimp only at f
      split at f
      · rename_i c e
        obtain ⟨cps⟩ := i
        have : cps = #[c] := by
          cases cps
          simp at e
          rw [e]
        subst this
        exact ⟨c, j, rfl, rfl, fin_ok f rel (Rp.bl _)⟩
      · exact f.elim
    | _ => exact f.elim
  | _ => cases dy <;> exact f.elim
theorem de_inT {a b : Expr} {pos : Pos} {ga gb : DSt → Out (Nat ⊕ Dat)} (ha : DH X W a ga) (hb : DH X W b gb) (hm : behindInMarks .In b = false := by rfl) : DE X W (.Compare a [.In] [b] pos) (gOp (hInT false) ga gb) := de_cmp op_in_sign (d2_inT (n := false)) ha hb hm
theorem dt_notinT {a b : Expr} {pos : Pos} {ga gb : DSt → Out (Nat ⊕ Dat)} (ha : DH X W a ga) (hb : DH X W b gb) (hm : behindInMarks .NotIn b = false := by rfl) : DT X W (.Compare a [.NotIn] [b] pos) (gB (gOp (hInT true) ga gb)) := dt_cmp op_notIn_sign (d2_inT (n := true)) ha hb hm
def truD : Dat → Option Bool
  | .non => some false
  | .bl b => some b
  | .int i => some (i != 0)
  | .str z => if z.length ≤ sizeLine then some ((z.length : Int) != 0) else none
  | .lst xs => some (!xs.isEmpty)
  | .tup xs => some (!xs.isEmpty)
  | _ => none
theorem empty_len {α β : Type} : ∀ {l : List α} {m : List β}, l.length = m.length → l.isEmpty = m.isEmpty
  | [], [], _ => rfl
  | _ :: _, _ :: _, _ => rfl
  | [], _ :: _, h => by cases h
  | _ :: _, [], h => by cases h
theorem tru_rp {K : PySem.W.Frag} {P : Addr} {O : List Addr} {H : Hp} {v : V} {d : Dat} {b : Bool} (r : Vw K P O H v d) (e : truD d = some b) : TruV K v H b := by
  cases d with
  | non =>
    cases (show Rp K P O H v .non from r)
    exact (Option.some.inj e).symm
  | bl c =>
    cases (show Rp K P O H v (.bl c) from r)
    exact (Option.some.inj e).symm
  | int i =>
    cases (show Rp K P O H v (.int i) from r)
    exact (Option.some.inj e).symm
  | str z =>
    cases (show Rp K P O H v (.str z) from r)
    have e : (if z.length ≤ sizeLine then some ((z.length : Int) != 0) else none) = some b := e
    by_cases h : z.length ≤ sizeLine
    · rw [if_pos h] at e
      exact ⟨h, (Option.some.inj e).symm⟩
    · rw [if_neg h] at e
      cases e
  | lst xs =>
    obtain ⟨a, vs, rfl, h, rs⟩ := r
    refine .inl ⟨vs, .of h, ?_⟩
    rw [← Option.some.inj e, empty_len rs.length]
  | tup xs =>
    have r : Rp K P O H v (.tup xs) := r
    cases r with
    | tup s rs =>
      refine .inr (.inl ⟨_, s.sq, ?_⟩)
      rw [← Option.some.inj e, empty_len rs.length]
  | _ => cases e
def gOrT (g h : DSt → Out Dat) : DSt → Out Dat := fun s => (g s).bind fun d s1 => match truD d with
  | some true => .ok d s1
  | some false => h s1
  | none => .no
theorem de_orT {e b : Expr} {es : List Expr} {pos : Pos} {g k : DSt → Out Dat} (h : DE X W e g) (t : DE X W (.BoolOp .Or (b :: es) pos) k) : DE X W (.BoolOp .Or (e :: b :: es) pos) (gOrT g k) := PE.imp (pe_orT h t) fun σ H Q ⟨P, ex, s, rel, f⟩ => by
  unfold gOrT at f
  refine tG_seq rel f fun d s1 H1 x st r f1 => ?_
  cases q : truD d with
  | none => rw [q] at f1; exact f1.elim
  | some c =>
    rw [q] at f1
    refine ⟨c, tru_rp (Rp.vw r) q, ?_⟩
    cases c with
    | true => rw [if_pos rfl]; exact fin_ok f1 st.rel r
    | false => rw [if_neg (by decide)]; exact ⟨P, ex, s1, st.rel, f1⟩
def hRev : Dat → DSt → Out Dat := fun d s => match d with
  | .lst xs => .ok (.lst xs.reverse) s
  | _ => .no
theorem Rps.reverse {K : PySem.W.Frag} {P : Addr} {O : List Addr} {H : Hp} : ∀ {vs : List V} {ds : List Dat}, Rps K P O H vs ds → Rps K P O H vs.reverse ds.reverse
  | _, _, .nil => .nil
  | _, _, .cons h t => by
    rw [List.reverse_cons, List.reverse_cons]
    exact (Rps.reverse t).append (.cons h .nil)
theorem de_rev {e : Expr} {k p1 p2 p3 pos} {g : DSt → Out (Nat ⊕ Dat)} (h : DH X W e g) : DE X W (.Subscript e (.Slice none none (some (.UnaryOp .USub (.Constant (.int 1) k p1) p2)) p3) pos) (gUn hRev g) := PE.imp (pe_revL h) fun σ H Q ⟨P, ex, s, rel, f⟩ => by
  unfold gUn at f
  refine tG_seq rel f fun hx s1 H1 x st r f1 => ?_
  cases e1 : look s1 hx with
  | none => rw [e1] at f1; exact f1.elim
  | some d =>
    rw [e1] at f1
    have v := look_vw st.rel r e1
    cases d with
    | lst xs =>
      obtain ⟨a, vs, rfl, ha, rs⟩ := v
      exact ⟨a, vs, rfl, .of ha, fun p np => fin_new f1 st.rel np fun m k => .lst ⟨m, upd_same⟩ (rs.reverse.kp k)⟩
    | _ => exact f1.elim
def gFmt (g : DSt → Out Dat) : DSt → Out Dat := fun s => (g s).bind fun d s1 => match d with
  | .str y => if y.length ≤ sizeLine then .ok (.str y) s1 else .no
  | .int i => if i.natAbs.log2 < 1920 then .ok (.str (toString i)) s1 else .no
  | _ => .no
theorem de_fmt {e : Expr} {pos : Pos} {g : DSt → Out Dat} (h : DE X W e g) : DE X W (.FormattedValue e (-1) none pos) (gFmt g) := PE.imp (pe_fmt h) fun σ H Q ⟨P, ex, s, rel, f⟩ => by
  unfold gFmt at f
  refine tG_seq rel f fun d s1 H1 x st r f1 => ?_
  have r : Rp X.K P (OO P ex s1 σ) H1 x d := r
  cases r with
  | str y =>
    obtain ⟨h1, f2⟩ := Fin.if f1
    exact .inl ⟨y, rfl, h1, fin_ok f2 st.rel (Rp.str _)⟩
  | int i =>
    obtain ⟨h1, f2⟩ := Fin.if f1
    exact .inr ⟨i, rfl, h1, fin_ok f2 st.rel (Rp.str _)⟩
  | _ => exact f1.elim
/-- the parts' functions -/
inductive DJ (X : Cx) (W : WX) : List Expr → List (DSt → Out Dat) → Prop where
  | nil : DJ X W [] []
  | cons {e : Expr} {g : DSt → Out Dat} {es : List Expr} {gs : List (DSt → Out Dat)} (h : DE X W e g) (r : DJ X W es gs) : DJ X W (e :: es) (g :: gs)
theorem DJ.pj {es : List Expr} {gs : List (DSt → Out Dat)} (h : DJ X W es gs) : PJ X es (gs.map (tG X.K (RP X.K) W)) := by
  induction h with
  | nil => exact .nil
  | cons h r ih => exact .cons h ih
def gJs : List (DSt → Out Dat) → Str → DSt → Out Dat
  | [], acc, s => .ok (.str acc) s
  | g :: gs, acc, s => (g s).bind fun d s1 => match d with
    | .str y => if (acc ++ y).length ≤ sizeLine then gJs gs (acc ++ y) s1 else .no
    | _ => .no
theorem js_read {P : Addr} {ex : List Addr} {σ : St} {Q : V → Hp → Prop} : ∀ (gs : List (DSt → Out Dat)) (acc : Str) (s : DSt) (H : Hp), Rel X.K P ex s σ H → Fin X.K P ex (RP X.K) W σ s H Q (gJs gs acc s) → tJs (gs.map (tG X.K (RP X.K) W)) acc σ H fun out H1 => Q (.str out) H1
  | [], acc, s, H, rel, f => fin_ok f rel (Rp.str _)
  | g :: gs, acc, s, H, rel, f => by
    unfold gJs at f
    refine tG_seq rel f fun d s1 H1 x st r f1 => ?_
    have r : Rp X.K P (OO P ex s1 σ) H1 x d := r
    cases r with
    | str y =>
      obtain ⟨h1, f2⟩ := Fin.if f1
      exact ⟨y, rfl, h1, js_read gs (acc ++ y) s1 H1 st.rel f2⟩
    | _ => exact f1.elim
theorem de_joined {v1 v2 : Expr} {rest : List Expr} {pos : Pos} {gs : List (DSt → Out Dat)} (h : DJ X W (v1 :: v2 :: rest) gs) : DE X W (.JoinedStr (v1 :: v2 :: rest) pos) (gJs gs Str.empty) := PE.imp (pe_joined h.pj) fun σ H Q ⟨P, ex, s, rel, f⟩ => js_read gs Str.empty s H rel f
end
end BD
namespace BD
open PySem PySem.Spec PyProof.Rows L2
section
variable {X : Cx} {W : WX}
def D1N (X : Cx) (W : WX) (r : V → Hp → VK → Prop) (h : Dat → DSt → Out DV) : Prop := ∀ P ex s σ H x dx (Q : VK), Rel X.K P ex s σ H → Vw X.K P (OO P ex s σ) H x dx → FinN X.K P ex W σ s H Q (h dx s) → r x H Q
def gUnN (h : Dat → DSt → Out DV) (ga : DSt → Out (Nat ⊕ Dat)) : DSt → Out DV := fun s => (ga s).bind fun x s1 => match look s1 x with
  | some dx => h dx s1
  | _ => .no
theorem dn_t1 {x : Str} {T : String} {r : List V → Hp → VK → Prop} {h : Dat → DSt → Out DV} {g : DSt → Out (Nat ⊕ Dat)} {e : Expr} {p pos : Pos} (hc : CallR X (.type T) r) (hd : D1N X W (fun x H Q => r [x] H Q) h) (hg : Gl X x) (hm : X.mg x = none) (hv : bootBuiltins x = some (.type T)) (ha : DH X W e g) (hn : x ≠ "__name__" := by decide) (hdb : (x == ("__debug__" : Str)) = false := by decide)
    (hs : starEach (e :: []) X.env = (false, eval e X.env) :: starEach [] X.env := by rfl) (hpl : (backTo pos (starEach [] X.env)).any (·.1) = false := by rfl) : DN X W (.Call (.Name x p) [e] [] pos) (gUnN h g) :=
  PE.imp (pe_callTy hc hg hm hv (pa_cons ha pa_nil hs) hn hdb hs hpl) fun σ H Q ⟨P, ex, s, rel, f⟩ => by
    unfold gUnN at f
    refine tG_seqN rel f fun hx s1 H1 x st rx f1 => ?_
    cases e1 : look s1 hx with
    | none => rw [e1] at f1; exact f1.elim
    | some dx =>
      rw [e1] at f1
      exact hd P ex s1 σ H1 x dx Q st.rel (look_vw st.rel rx e1) f1
/-- pairs, as they are told to dict -/
def pairD : Dat → Option (Key × Dat)
  | .tup [k, v] => (keyD k).map fun k' => (k', v)
  | _ => none
def pairsD : List Dat → Option (List (Key × Dat))
  | [] => some []
  | d :: ds => (pairD d).bind fun p => (pairsD ds).map fun ps => p :: ps
theorem pair_rp {K : PySem.W.Frag} {P : Addr} {O : List Addr} {H : Hp} {v : V} {d : Dat} {p : Key × Dat} (r : Rp K P O H v d) (e : pairD d = some p) : ∃ a u, v = .ref a ∧ SqT K H a [kV p.1, u] ∧ Rp K P O H u p.2 := by
  cases r with
  | @tup a vs xs s rs =>
    cases rs with
    | nil => cases e
    | @cons v1 x1 _ _ h1 t1 =>
      cases t1 with
      | nil => cases e
      | @cons v2 x2 _ _ h2 t2 =>
        cases t2 with
        | cons _ _ => cases e
        | nil =>
          have e : (keyD x1).map (fun k' => (k', x2)) = some p := e
          cases q : keyD x1 with
          | none => rw [q] at e; cases e
          | some k =>
            rw [q] at e
            obtain rfl := Option.some.inj e
            have ev := key_vw (Rp.vw h1) q
            subst ev
            exact ⟨a, v2, rfl, s.sq, h2⟩
  | _ => cases e
theorem pairs_rp {K : PySem.W.Frag} {P : Addr} {O : List Addr} {H : Hp} : ∀ {vs : List V} {ds : List Dat} {ks : List (Key × Dat)}, Rps K P O H vs ds → pairsD ds = some ks →
    ∃ (ps : List Addr) (kvs : List (Key × V)), vs = ps.map V.ref ∧ Paired (fun p kv => SqT K H p [kV kv.1, kv.2]) ps kvs ∧ DicR K P O H kvs ks
  | _, _, _, .nil, e => by
    obtain rfl := Option.some.inj e
    exact ⟨[], [], rfl, .nil, rfl, .nil⟩
  | _, _, _, .cons (x := x) (xs := xs) h t, e => by
    have e : (pairD x).bind (fun p => (pairsD xs).map fun ps => p :: ps) = some _ := e
    cases q1 : pairD x with
    | none => rw [q1] at e; cases e
    | some p =>
      cases q2 : pairsD xs with
      | none => rw [q1, q2] at e; cases e
      | some ks =>
        rw [q1, q2] at e
        obtain rfl := Option.some.inj e
        obtain ⟨a, u, rfl, h1, h2⟩ := pair_rp h q1
        obtain ⟨ps, kvs, rfl, h3, h4, h5⟩ := pairs_rp t q2
        exact ⟨a :: ps, (p.1, u) :: kvs, rfl, .cons h1 h3, by simp [h4], .cons h2 h5⟩
def hNdict : Dat → DSt → Out DV := fun d s => match d with
  | .lst ds => match pairsD ds with
    | some ks => .ok (.od (mergeD [] ks)) s
    | none => .no
  | d => match dicOf d with
    | some ks => .ok (.od ks) s
    | none => .no
def rDict (K : PySem.W.Frag) : List V → Hp → VK → Prop := fun xs H Q => (∃ (a : Addr) (ps : List Addr) (kvs : List (Key × V)), xs = [.ref a] ∧ SqL K H a (ps.map V.ref) ∧ Paired (fun p kv => SqT K H p [kV kv.1, kv.2]) ps kvs ∧ ∀ p, H p = none → Q (.ref p) (upd H p (.dK (mergeK [] kvs)))) ∨
  (∃ (a : Addr) (kvs : List (Key × V)), xs = [.ref a] ∧ Rd H a (.dK kvs) ∧ ∀ p, H p = none → Q (.ref p) (upd H p (.dK kvs)))
theorem call_dictW (hc : X.calm = true) (hu : X.A.units + 64 < cLine) : CallR X (.type "dict") (rDict X.K) := CallR.or (call_dictP hc) call_dictD
theorem d1n_dict : D1N X W (fun x H Q => rDict X.K [x] H Q) hNdict := fun P ex s σ H x dx Q rel hx f => by
  have viaD : ∀ {ks : List (Key × Dat)}, dicOf dx = some ks → FinN X.K P ex W σ s H Q (.ok (.od ks) s) → rDict X.K [x] H Q := fun {ks} e g => by
    obtain ⟨a, kvs, rfl, hd, hk, rk⟩ := vw_dic hx e
    exact .inr ⟨a, kvs, rfl, hd, fun p np => g _ _ (.pushO rel np rfl fun O k => ⟨p, kvs, rfl, upd_same, hk, rk.kr k⟩)⟩
  cases dx with
  | lst ds =>
    obtain ⟨a, vs, rfl, ha, rs⟩ := hx
    have f : FinN X.K P ex W σ s H Q (match pairsD ds with | some ks => .ok (.od (mergeD [] ks)) s | none => .no) := f
    cases q : pairsD ds with
    | none => rw [q] at f; exact f.elim
    | some ks =>
      rw [q] at f
      obtain ⟨ps, kvs, rfl, h1, h2⟩ := pairs_rp rs q
      refine .inl ⟨a, ps, kvs, rfl, .of ha, h1, fun p np => f _ _ (.pushO rel np rfl fun O k => ?_)⟩
      have h3 := (merge_rp h2 (show DicR X.K P (OO P ex s σ) H [] [] from ⟨rfl, .nil⟩)).kr k
      exact ⟨p, _, rfl, upd_same, h3.1, h3.2⟩
  | dic ks => exact viaD rfl f
  | bor ks => exact viaD rfl f
  | _ => exact f.elim
end
end BD
namespace BD
open PySem PySem.Spec PyProof.Rows L2
section
variable {X : Cx} {W : WX}
def signV (z : Str) : List V := z.cps.toList.map fun c => .str ⟨#[c]⟩
theorem rps_signs {K : PySem.W.Frag} {P : Addr} {O : List Addr} {H : Hp} : ∀ l : List Nat, Rps K P O H (l.map fun c => V.str ⟨#[c]⟩) (l.map fun c => Dat.str ⟨#[c]⟩)
  | [] => .nil
  | c :: r => .cons (.str _) (rps_signs r)
theorem call_listS (hc : X.calm = true) : CallR X (.type "list") (fun xs H Q => ∃ z, xs = [V.str z] ∧ z.cps.size ≤ sizeLine ∧ ∀ p, H p = none → Q (.ref p) (upd H p (.lst (signV z)))) := by
  intro pins s σ H xs us Q I r q
  obtain ⟨z, rfl, hz, q⟩ := q
  obtain ⟨u, rfl, t, rfl⟩ := vals1 r
  refine call_list_str (I.ok.hd hc) z t (fun h' tk acc c hk ha hi => ?_) hz
  have hv : Vals (signV z) acc.toList := by
    have len : acc.toList.length = z.cps.toList.length := by simpa using hi.1
    refine Paired.all_get (by simp [signV, len]) fun i x y hx hy => ?_
    have hi2 : i < z.cps.size := by
      have := (List.getElem?_eq_some_iff.mp hy).1
      rw [len] at this
      simpa using this
    obtain ⟨c0, t0, e1, e2⟩ := hi.2 i y (by simpa using hy)
    simp only [signV, List.getElem?_map] at hx
    have : z.cps.toList[i]? = some c0 := by simpa using e1
    rw [this] at hx
    obtain rfl := Option.some.inj hx
    exact ⟨t0, e2⟩
  exact ⟨.ref s.heap.objs.size, upd H s.heap.objs.size (.lst (signV z)), I.laid hk (Nat.le_refl _) ⟨by simpa [signV] using hz, acc.toList, c, hv, by simpa using ha⟩, rfl, q _ (I.hok.fresh (Nat.le_refl _))⟩
def rListW (K : PySem.W.Frag) : List V → Hp → VK → Prop := fun xs H Q => ((∃ p ys, xs = [.ref p] ∧ (SqL K H p ys ∨ SqT K H p ys) ∧ ∀ l, H l = none → Q (.ref l) (upd H l (.lst ys))) ∨
  (∃ (a : Addr) (kvs : List (Key × V)), xs = [.ref a] ∧ Rd H a (.dK kvs) ∧ ∀ p, H p = none → Q (.ref p) (upd H p (.lst (kvs.map fun kv => kV kv.1))))) ∨ ∃ z, xs = [V.str z] ∧ z.cps.size ≤ sizeLine ∧ ∀ p, H p = none → Q (.ref p) (upd H p (.lst (signV z)))
theorem call_listW (hc : X.calm = true) : CallR X (.type "list") (rListW X.K) := CallR.or (CallR.or call_list_of (call_listD hc)) (call_listS hc)
def listD : Dat → Option (List Dat)
  | .lst xs => some xs
  | .tup xs => some xs
  | .str z => if z.cps.size ≤ sizeLine then some (signs z) else none
  | d => (dicOf d).map fun ks => ks.map fun kv => kD kv.1
theorem rps_keys {K : PySem.W.Frag} {P : Addr} {O : List Addr} {H : Hp} : ∀ {kvs : List (Key × V)} {ks : List (Key × Dat)}, kvs.map (·.1) = ks.map (·.1) → Rps K P O H (kvs.map fun kv => kV kv.1) (ks.map fun kv => kD kv.1)
  | [], [], _ => .nil
  | (k1, _) :: kvs, (k2, _) :: ks, e => by
    simp only [List.map_cons, List.cons.injEq] at e
    obtain ⟨e1, e2⟩ := e
    have e1 : k1 = k2 := e1
    subst e1
    exact .cons (rp_key k1) (rps_keys e2)
  | [], _ :: _, e => by cases e
  | _ :: _, [], e => by cases e
theorem list_rd {P : Addr} {ex : List Addr} {s : DSt} {σ : St} {H : Hp} {x : V} {dx : Dat} {ys : List Dat} {Q : VK} (hx : Vw X.K P (OO P ex s σ) H x dx) (e : listD dx = some ys)
    (f : ∀ p vs, H p = none → Rps X.K P (OO P ex s σ) H vs ys → Q (.ref p) (upd H p (.lst vs))) : rListW X.K [x] H Q := by
  have viaD : ∀ {ks : List (Key × Dat)}, dicOf dx = some ks → ys = (ks.map fun kv => kD kv.1) → rListW X.K [x] H Q := fun {ks} e0 e1 => by
    obtain ⟨a, kvs, rfl, hd, hk, rk⟩ := vw_dic hx e0
    refine .inl (.inr ⟨a, kvs, rfl, hd, fun p np => f p _ np ?_⟩)
    rw [e1]
    exact rps_keys hk
  cases dx with
  | lst xs =>
    obtain ⟨a, vs, rfl, ha, rs⟩ := hx
    obtain rfl := Option.some.inj e
    exact .inl (.inl ⟨a, vs, rfl, .inl (.of ha), fun p np => f p vs np rs⟩)
  | tup xs =>
    have hx : Rp X.K P (OO P ex s σ) H x (.tup xs) := hx
    cases hx with
    | @tup a vs _ hs rs =>
      obtain rfl := Option.some.inj e
      exact .inl (.inl ⟨a, vs, rfl, .inr hs.sq, fun p np => f p vs np rs⟩)
  | str z =>
    cases (show Rp X.K P (OO P ex s σ) H x (.str z) from hx)
    have e : (if z.cps.size ≤ sizeLine then some (signs z) else none) = some ys := e
    by_cases h : z.cps.size ≤ sizeLine
    · rw [if_pos h] at e
      obtain rfl := Option.some.inj e
      exact .inr ⟨z, rfl, h, fun p np => f p _ np (rps_signs _)⟩
    · rw [if_neg h] at e
      cases e
  | dic ks => exact viaD rfl (Option.some.inj e).symm
  | bor ks => exact viaD rfl (Option.some.inj e).symm
  | _ => cases e
def hNlist : Dat → DSt → Out DV := fun d s => match listD d with
  | some ys => .ok (.ol ys) s
  | none => .no
theorem d1n_list : D1N X W (fun x H Q => rListW X.K [x] H Q) hNlist := fun P ex s σ H x dx Q rel hx f => by
  unfold hNlist at f
  cases q : listD dx with
  | none => rw [q] at f; exact f.elim
  | some ys =>
    rw [q] at f
    exact list_rd hx q fun p vs np rs => f _ _ (.pushO rel np rfl fun O k => ⟨p, vs, rfl, upd_same, rs.kr k⟩)
def hListW : Dat → DSt → Out Dat := fun d s => match listD d with
  | some ys => .ok (.lst ys) s
  | none => .no
theorem d1_listW : D1 X W (fun x H Q => rListW X.K [x] H Q) hListW := fun P ex s σ H x dx Q rel hx f => by
  unfold hListW at f
  cases q : listD dx with
  | none => rw [q] at f; exact f.elim
  | some ys =>
    rw [q] at f
    exact list_rd hx q fun p vs np rs => fin_new f rel np fun m k => .lst ⟨m, upd_same⟩ (rs.kp k)
def dpop (i : Nat) (d : Dat) (s1 : DSt) : Out Dat := match s1.env[i]? with
  | some (.od ks) => (match keyD d with
    | some k => (match valD ks k with
      | some v => .ok v { s1 with env := s1.env.set i (.od (dropD ks k)) }
      | none => .no)
    | none => .no)
  | _ => .no
def gDPop (i : Nat) (g : DSt → Out Dat) : DSt → Out Dat := fun s => if isOd s i = true then (g s).bind (dpop i) else .no
theorem drop_rp {K : PySem.W.Frag} {P : Addr} {O : List Addr} {H : Hp} (k : Key) : ∀ {kvs : List (Key × V)} {ks : List (Key × Dat)}, DicR K P O H kvs ks → DicR K P O H (dropK kvs k) (dropD ks k)
  | [], [], r => r
  | (k1, v) :: kvs, (k2, d) :: ks, ⟨e, r⟩ => by
    simp only [List.map_cons, List.cons.injEq] at e
    obtain ⟨e1, e2⟩ := e
    have e1 : k1 = k2 := e1
    subst e1
    cases r with
    | cons h t =>
      obtain ⟨q1, q2⟩ := drop_rp k (kvs := kvs) (ks := ks) ⟨e2, t⟩
      unfold dropK dropD at q1 q2 ⊢
      by_cases z : k1 = k
      · simp only [List.filter_cons, z, ne_eq, not_true_eq_false, decide_false, decide_true, Bool.not_true, Bool.false_eq_true, if_false]
        exact ⟨q1, q2⟩
      · simp only [List.filter_cons, z, ne_eq, not_false_eq_true, decide_false, decide_true, Bool.not_false, if_true]
        exact ⟨by simp only [List.map_cons, q1], .cons h q2⟩
  | [], _ :: _, ⟨e, _⟩ => by cases e
  | _ :: _, [], ⟨e, _⟩ => by cases e
theorem de_dpop {o e : Expr} {i : Nat} {apos cpos : Pos} {g : DSt → Out Dat} (ho : PE X o (tVar i)) (he : DE X W e g) (m : M1 X o "pop" apos e cpos) : DE X W (.Call (.Attribute o "pop" apos) [e] [] cpos) (gDPop i g) := PE.imp (pe_dpop1 ho he m) fun σ H Q ⟨P, ex, s, rel, f⟩ => by
  unfold gDPop at f
  obtain ⟨h0, f⟩ := Fin.if f
  obtain ⟨ks0, e0⟩ := isOd_get h0
  obtain ⟨a, kvs0, es, hd0, _⟩ := slot_od rel e0
  refine ⟨.ref a, es, a, rfl, .inl ⟨kvs0, .inl hd0⟩, ?_⟩
  refine tG_seq rel f fun d s1 H1 y st ry f1 => ?_
  unfold dpop at f1
  cases q : s1.env[i]? with
  | none => rw [q] at f1; exact f1.elim
  | some w =>
    rw [q] at f1
    cases w with
    | od ks =>
      dsimp only at f1
      cases q1 : keyD d with
      | none => rw [q1] at f1; exact f1.elim
      | some k =>
        rw [q1] at f1
        dsimp only at f1
        cases q2 : valD ks k with
        | none => rw [q2] at f1; exact f1.elim
        | some vd =>
          rw [q2] at f1
          obtain ⟨a', kvs, es', hl, hk, rs⟩ := slot_od st.rel q
          rw [es] at es'
          cases es'
          have ey := key_vw (Rp.vw ry) q1
          rcases val_rp k hk rs with ⟨z1, z2⟩ | ⟨d', v, z1, z2, rv⟩
          · rw [z1] at q2
            cases q2
          · rw [z1] at q2
            obtain rfl := Option.some.inj q2
            refine ⟨kvs, k, v, hl, ey, z2, ?_⟩
            obtain ⟨p1, p2⟩ := drop_rp k (show DicR X.K P (OO P ex s1 σ) H1 kvs ks from ⟨hk, rs⟩)
            have st2 : Step X.K P ex σ s1 H1 σ { s1 with env := s1.env.set i (.od (dropD ks k)) } (L2.upd H1 a (.dK (dropK kvs k))) := Step.mut st.rel q es rfl rfl fun kp => ⟨a, _, rfl, upd_same, p1, p2.kp kp⟩
            exact fin_step f1 st2 (rv.step st2)
    | _ => exact f1.elim
end
end BD
namespace BD
open PySem PySem.Spec PyProof.Rows L2
abbrev GG := (DSt → Out Dat) × (DSt → Out Dat)
def gPairs : List GG → DSt → Out (List (Key × Dat))
  | [], s => .ok [] s
  | g :: gs, s => (g.1 s).bind fun kd s1 => (g.2 s1).bind fun vd s2 => match keyD kd with
    | some k => (gPairs gs s2).bind fun ps s3 => .ok ((k, vd) :: ps) s3
    | none => .no
def gNdisp (gs : List GG) : DSt → Out DV := fun s => if gs.length ≤ 15 then (gPairs gs s).bind fun ps s1 => .ok (.od (mergeD [] ps)) s1 else .no
inductive DPs (X : Cx) (W : WX) (pos : Pos) : List (Option Expr) → List Expr → List GG → Prop where
  | nil : DPs X W pos [] [] []
  | cons {k v : Expr} {ks : List (Option Expr)} {vs : List Expr} {gk gv : DSt → Out Dat} {gs : List GG} (hk : DE X W k gk) (hv : DE X W v gv) (r : DPs X W pos ks vs gs) : DPs X W pos (some k :: ks) (v :: vs) ((gk, gv) :: gs)
theorem bind_assoc' {α β γ : Type} (o : Out α) (f : α → DSt → Out β) (g : β → DSt → Out γ) : (o.bind f).bind g = o.bind fun a s => (f a s).bind g := by
  cases o <;> rfl
section
variable {X : Cx} {W : WX}
def ggT (X : Cx) (W : WX) (g : GG) : TE × TE := (tG X.K (RP X.K) W g.1, tG X.K (RP X.K) W g.2)
theorem DPs.pps {pos : Pos} {ks : List (Option Expr)} {vs : List Expr} {gs : List GG} (h : DPs X W pos ks vs gs) : PPs X pos ks vs (gs.map (ggT X W)) := by
  induction h with
  | nil => exact pps_nil
  | cons hk hv r ih => exact pps_cons hk hv ih
theorem DPs.facts {pos : Pos} {ks : List (Option Expr)} {vs : List Expr} {gs : List GG} (h : DPs X W pos ks vs gs) : ks.all (·.isSome) = true ∧ ks.length = vs.length ∧ ks.length = gs.length := by
  induction h with
  | nil => exact ⟨rfl, rfl, rfl⟩
  | cons hk hv r ih =>
    obtain ⟨h1, h2, h3⟩ := ih
    exact ⟨by simpa using h1, by simp [h2], by simp [h3]⟩
theorem pairs_read {K : PySem.W.Frag} {P p : Addr} {ex : List Addr} {σ : St} {s : DSt} {H : Hp} {Q : V → Hp → Prop} : ∀ (gs : List GG) (s1 : DSt) (H1 : Hp) (k : List (Key × Dat) → DSt → Out DV) (Q1 : List (V × V) → Hp → Prop), Step K P ex σ s H σ s1 H1 → Rel K P (p :: ex) s1 σ H1 → FinN K P ex W σ s H Q ((gPairs gs s1).bind k) →
    (∀ ps s2 H2 kvs, Step K P ex σ s H σ s2 H2 → Step K P (p :: ex) σ s1 H1 σ s2 H2 → DicR K P (OO P (p :: ex) s2 σ) H2 kvs ps → ps.length = gs.length → FinN K P ex W σ s H Q (k ps s2) → Q1 (kvs.map fun kv => (kV kv.1, kv.2)) H2) →
    tPairs (gs.map fun g => (tG K (RP K) W g.1, tG K (RP K) W g.2)) σ H1 Q1
  | [], s1, H1, k, Q1, x, r1, f, h => h [] s1 H1 [] x (.refl r1) ⟨rfl, .nil⟩ rfl f
  | g :: gs, s1, H1, k, Q1, x, r1, f, h => by
    rw [gPairs, bind_assoc'] at f
    refine part x r1 f fun kd s2 H2 vk x2 y2 rk f2 => ?_
    rw [bind_assoc'] at f2
    refine part x2 y2.rel f2 fun vd s3 H3 vv x3 y3 rv f3 => ?_
    cases q : keyD kd with
    | none => rw [q] at f3; exact f3.elim
    | some key =>
      rw [q] at f3
      dsimp only at f3
      rw [bind_assoc'] at f3
      have ek := key_vw (Rp.vw rk) q
      subst ek
      refine pairs_read gs s3 H3 _ _ x3 y3.rel f3 fun ps s4 H4 kvs x4 y4 dr lp f4 => ?_
      have rv : Rp K P (OO P (p :: ex) s3 σ) H3 vv vd := rv
      exact h ((key, vd) :: ps) s4 H4 ((key, vv) :: kvs) x4 (y2.trans (y3.trans y4)) ⟨by simp [dr.1], .cons (rv.step y4) dr.2⟩ (by simp [lp]) f4
theorem dn_disp {pos : Pos} {ks : List (Option Expr)} {vs : List Expr} {gs : List GG} (h : DPs X W pos ks vs gs) (h0 : ks ≠ []) : DN X W (.Dict ks vs pos) (gNdisp gs) := by
  obtain ⟨k1, k2, k3⟩ := h.facts
  by_cases h15 : gs.length ≤ 15
  case neg =>
    refine ⟨fun pins s0 σ H Q I ⟨P, ex, s, rel, f⟩ => ?_⟩
    unfold gNdisp at f
    rw [if_neg h15] at f
    exact f.elim
  refine PE.imp (pe_disp h.pps k1 k2 h0 (by omega)) fun σ H Q ⟨P, ex, s, rel, f⟩ => ?_
  unfold gNdisp at f
  rw [if_pos h15] at f
  intro p np
  refine pairs_read (p := p) gs s _ _ _ (Step.new rel np) (rel.exNew np) f fun ps s2 H2 kvs x2 y2 dr lp f2 => ?_
  have hp2 : H2 p = some (.dK []) := (y2.exk p (List.mem_cons_self ..)).trans upd_same
  have hl : kvs.length ≤ 15 := by
    have : kvs.length = ps.length := by simpa using congrArg List.length dr.1
    omega
  refine ⟨hp2, kvs, rfl, hl, ?_⟩
  obtain ⟨x4, r4⟩ := x2.poke (o := .dK (mergeK [] kvs)) np y2.rel (.dK hp2)
  have kp4 : Kp (OO P (p :: ex) s2 σ) H2 (upd H2 p (.dK (mergeK [] kvs))) := .updO (oo_mem.mpr (.inr (.inl (List.mem_cons_self ..)))) (.dK hp2)
  have d4 := (merge_rp dr (show DicR X.K P (OO P (p :: ex) s2 σ) H2 [] [] from ⟨rfl, .nil⟩)).kr kp4.kr
  exact f2 _ _ (DcEnd.push ⟨x4, r4, np, _, upd_same, d4⟩)
end
mutual
def nbD : Dat → Bool
  | .bor _ => false
  | .lst xs => nbDs xs
  | .tup xs => nbDs xs
  | .dic ks => nbKs ks
  | .ins _ fs => nbFs fs
  | _ => true
def nbDs : List Dat → Bool
  | [] => true
  | d :: ds => nbD d && nbDs ds
def nbKs : List (Key × Dat) → Bool
  | [] => true
  | p :: ks => nbP p && nbKs ks
def nbP : Key × Dat → Bool
  | (_, d) => nbD d
def nbFs : List (Str × Dat) → Bool
  | [] => true
  | p :: ks => nbF p && nbFs ks
def nbF : Str × Dat → Bool
  | (_, d) => nbD d
end
theorem nbKs_vals : ∀ {ks : List (Key × Dat)}, nbKs ks = true → nbDs (ks.map (·.2)) = true
  | [], _ => rfl
  | (k, d) :: ks, h => by
    rw [nbKs, Bool.and_eq_true, nbP] at h
    rw [List.map_cons, nbDs, Bool.and_eq_true]
    exact ⟨h.1, nbKs_vals h.2⟩
theorem nbFs_vals : ∀ {ks : List (Str × Dat)}, nbFs ks = true → nbDs (ks.map (·.2)) = true
  | [], _ => rfl
  | (k, d) :: ks, h => by
    rw [nbFs, Bool.and_eq_true, nbF] at h
    rw [List.map_cons, nbDs, Bool.and_eq_true]
    exact ⟨h.1, nbFs_vals h.2⟩
def nbV : DV → Bool
  | .no => true
  | .d x => nbD x
  | .ol xs => nbDs xs
  | .od ks => nbKs ks
  | .oi _ _ fs => nbFs fs
section
variable {K : PySem.W.Frag} {P : Addr} {O : List Addr} {H H' : Hp}
/-- what is not owned stays, as far as plain data goes -/
def Kq (O : List Addr) (H H' : Hp) : Prop := ∀ a, a ∉ O → ∀ o, H a = some o → Ke o (H' a)
mutual
theorem Rp.nb (k : Kq O H H') : ∀ {v : V} {d : Dat}, Rp K P O H v d → nbD d = true → Rp K P O H' v d
  | _, _, .non, _ => .non
  | _, _, .bl b, _ => .bl b
  | _, _, .int i, _ => .int i
  | _, _, .str x, _ => .str x
  | _, _, .lst s r, n => .lst ⟨s.1, (k _ s.1 _ s.2).nt⟩ (Rps.nb k r (by rw [nbD] at n; exact n))
  | _, _, .tup s r, n => .tup (s.elim (fun x => .inl ⟨x.1, x.2.elim (fun e => .inl (k _ x.1 _ e).nt) fun ⟨o, e⟩ => .inr ⟨o, (k _ x.1 _ e).nt⟩⟩) .inr) (Rps.nb k r (by rw [nbD] at n; exact n))
  | _, _, .dic m ⟨o, s⟩ e r, n => .dic m ⟨o, (k _ m _ s).nt⟩ e (Rps.nb k r (by rw [nbD] at n; exact nbKs_vals n))
  | _, _, .ins m s e r, n => .ins m (k _ m _ s).nt e (Rps.nb k r (by rw [nbD] at n; exact nbFs_vals n))
  | _, _, .pen, _ => .pen
  | _, _, .bor _ _ _, n => by rw [nbD] at n; cases n
theorem Rps.nb (k : Kq O H H') : ∀ {vs : List V} {ds : List Dat}, Rps K P O H vs ds → nbDs ds = true → Rps K P O H' vs ds
  | _, _, .nil, _ => .nil
  | _, _, .cons h t, n => by
    rw [nbDs, Bool.and_eq_true] at n
    exact .cons (Rp.nb k h n.1) (Rps.nb k t n.2)
end
theorem SlotOk.nb {e : DV} {r : Option V} (h : SlotOk K P O H e r) (k : Kq O H H') (q : ∀ b ∈ own1 e r, H' b = H b) (n : nbV e = true) : SlotOk K P O H' e r := by
  cases e with
  | no => trivial
  | d x =>
    obtain ⟨v, e1, z⟩ := h
    exact ⟨v, e1, z.nb k n⟩
  | ol xs =>
    obtain ⟨a, vs, rfl, e1, z⟩ := h
    exact ⟨a, vs, rfl, (q a (by simp [own1, DV.isO])).trans e1, z.nb k n⟩
  | od ks =>
    obtain ⟨a, vs, rfl, e1, e2, z⟩ := h
    exact ⟨a, vs, rfl, (q a (by simp [own1, DV.isO])).trans e1, e2, z.nb k (nbKs_vals n)⟩
  | oi a C fs =>
    obtain ⟨dx, vs, rfl, e1, e2, z⟩ := h
    exact ⟨dx, vs, rfl, (q a (by simp [own1, DV.isO])).trans e1, e2, z.nb k (nbFs_vals n)⟩
end
end BD
namespace BD
open PySem PySem.Spec PyProof.Rows L2
section
variable {K : PySem.W.Frag} {P a : Addr} {ex : List Addr} {s s1 s2 : DSt} {σ : St} {H H1 H2 : Hp} {i : Nat} {ks : List (Key × Dat)} {kvs : List (Key × V)} {od : Obj}
theorem owns_lift {e e0 : DV} (h0 : e0.isO = false) (he : e.isO = true) : ∀ {es : List DV} {τ : St} {i : Nat}, es[i]? = some e0 → τ[i]? = some (some (.ref a)) → (owns (es.set i e) τ).Perm (a :: owns es τ)
  | [], _, _, h, _ => by simp at h
  | _ :: _, [], _, _, h => by simp at h
  | e1 :: es, r1 :: τ, 0, h, h' => by
    simp at h h'
    subst h
    subst h'
    simp [owns, own1, h0, he]
  | e1 :: es, r1 :: τ, i + 1, h, h' => by
    simp only [List.set_cons_succ, owns]
    have ih := owns_lift h0 he (es := es) (τ := τ) (i := i) (by simpa using h) (by simpa using h')
    refine ((List.Perm.refl _).append ih).trans ?_
    exact List.perm_middle
theorem tabs_upd {T : List (Addr × Str)} {o : HO} (t : LamX.Tabs T H) (h1 : ∀ ps, H a ≠ some (.tbl ps)) (h2 : ∀ φ, H a ≠ some (.ext φ)) : LamX.Tabs T (upd H a o) := fun p hp => by
  obtain ⟨ps, e1, e2, e3⟩ := t p hp
  refine ⟨ps, ?_, e2, fun pos cv hc => ?_⟩
  · rw [upd_ne fun (z : p.1 = a) => h1 ps (z ▸ e1)]
    exact e1
  · obtain ⟨c, q1, q2⟩ := e3 pos cv hc
    refine ⟨c, q1, ?_⟩
    rw [upd_ne fun (z : c = a) => h2 (fun h => ∃ (oc : Obj) (vs : Array Value) (t : Tok), h.get? c = some oc ∧ oc.data = .fields vs ∧ vs[1]? = some (.str p.2 t)) (by rw [← z]; exact q2)]
    exact q2
theorem oo_lift {e e0 : DV} (h0 : e0.isO = false) (he : e.isO = true) (h : s.env[i]? = some e0) (hs : σ[i]? = some (some (.ref a))) : (OO P ex { s with env := s.env.set i e } σ).Perm (OO P (a :: ex) s σ) := by
  unfold OO
  refine List.Perm.cons _ ?_
  refine ((List.Perm.refl _).append (owns_lift h0 he h hs)).trans ?_
  exact List.perm_middle
theorem lend_env (q : s.env[i]? = some (.od ks)) : (s.env.set i (.d (.bor ks)))[i]? = some (.d (.bor ks)) ∧ (s.env.set i (.d (.bor ks))).set i (.od ks) = s.env := by
  have hl := (List.getElem?_eq_some_iff.mp q).1
  refine ⟨by simp [hl], ?_⟩
  rw [List.set_set]
  exact set_same q
theorem Rel.lend (rel : Rel K P ex s σ H) (q : s.env[i]? = some (.od ks)) (es : σ[i]? = some (some (.ref a))) (hd : H a = some (.dK kvs)) (hk : kvs.map (·.1) = ks.map (·.1)) (rk : Rps K P (OO P ex s σ) H (kvs.map (·.2)) (ks.map (·.2))) :
    Rel K P (a :: ex) { s with env := s.env.set i (.d (.bor ks)) } σ (upd H a (.frz od (.dK kvs))) ∧ (OO P ex s σ).Perm (OO P (a :: ex) { s with env := s.env.set i (.d (.bor ks)) } σ) := by
  obtain ⟨z1, z2⟩ := lend_env q
  have pm : (OO P ex s σ).Perm (OO P (a :: ex) { s with env := s.env.set i (.d (.bor ks)) } σ) := by
    have := oo_lift (P := P) (ex := ex) (s := { s with env := s.env.set i (.d (.bor ks)) }) (e := .od ks) (e0 := .d (.bor ks)) rfl rfl z1 es
    rw [show ({ ({ s with env := s.env.set i (.d (.bor ks)) } : DSt) with env := (s.env.set i (.d (.bor ks))).set i (.od ks) } : DSt) = s by rw [z2]] at this
    exact this
  have am : a ∈ owns s.env σ := own1_sub q es a (by simp [own1, DV.isO])
  have kp : Kp (OO P ex s σ) H (upd H a (.frz od (.dK kvs))) := .updO (oo_mem.mpr (.inr (.inr am))) (.dK hd)
  have sub : ∀ b ∈ OO P (a :: ex) { s with env := s.env.set i (.d (.bor ks)) } σ, b ∈ OO P ex s σ := fun b hb => pm.mem_iff.mpr hb
  obtain ⟨c1, c2, c3, c4, c5⟩ := rel.sep
  refine ⟨⟨pm.nodup_iff.mp rel.nd, ?_, (rel.pen.mono kp (upd_ne fun z => c2 (z ▸ am)) (.upd (.dK hd))).anti sub, fun b hb => ?_⟩, pm⟩
  · have p0 : Paired (fun e r => (SlotOk K P (OO P ex s σ) H e r ∧ a ∉ own1 e r) ∨ (e = .d (.bor ks) ∧ r = some (.ref a))) (s.env.set i (.d (.bor ks))) (σ.set i (some (.ref a))) := by
      have gen : ∀ {es : List DV} {τ : St} {i : Nat}, Paired (SlotOk K P (OO P ex s σ) H) es τ → (owns es τ).Nodup → es[i]? = some (.od ks) → τ[i]? = some (some (.ref a)) → Paired (fun e r => (SlotOk K P (OO P ex s σ) H e r ∧ a ∉ own1 e r) ∨ (e = .d (.bor ks) ∧ r = some (.ref a))) (es.set i (.d (.bor ks))) (τ.set i (some (.ref a))) := by
        intro es τ i p
        induction p generalizing i with
        | nil => intro _ h _; simp at h
        | @cons e r l m h1 t ih =>
          intro nd h h'
          rw [owns, List.nodup_append] at nd
          cases i with
          | zero =>
            simp at h h'
            subst h
            subst h'
            refine .cons (.inr ⟨rfl, rfl⟩) ?_
            refine Paired.own t fun e' r' hb x => .inl ⟨x, fun z => nd.2.2 a (by simp [own1, DV.isO]) a (hb a z) rfl⟩
          | succ i =>
            have h : l[i]? = some (.od ks) := by simpa using h
            have h' : m[i]? = some (some (.ref a)) := by simpa using h'
            refine .cons (.inl ⟨h1, fun z => nd.2.2 a z a (own1_sub h h' a (by simp [own1, DV.isO])) rfl⟩) (ih nd.2.1 h h')
      exact gen rel.sl c5 q es
    rw [set_same es] at p0
    refine Paired.own p0 fun e r _ x => ?_
    rcases x with ⟨x, n⟩ | ⟨rfl, rfl⟩
    · exact (x.mono kp fun b hb => upd_ne fun z => n (z ▸ hb)).kr (.anti sub) fun _ _ => rfl
    · exact ⟨.ref a, rfl, .bor ⟨od, upd_same⟩ hk ((rk.kp kp).anti sub)⟩
  · rcases List.mem_cons.mp hb with rfl | hb
    · exact ⟨_, upd_same⟩
    · obtain ⟨o, e⟩ := rel.exs b hb
      exact ⟨o, (upd_ne fun (z : b = a) => c3 b hb (z ▸ am)).trans e⟩
theorem Step.unlend (rel : Rel K P ex s σ H) (q : s.env[i]? = some (.od ks)) (es : σ[i]? = some (some (.ref a))) (hd : H a = some (.dK kvs)) (hk : kvs.map (·.1) = ks.map (·.1)) (rk : Rps K P (OO P ex s σ) H (kvs.map (·.2)) (ks.map (·.2))) {e0 : DV}
    (st : Step K P (a :: ex) σ { s with env := s.env.set i (.d (.bor ks)) } (upd H a (.frz od (.dK kvs))) σ s2 H2) (h0 : s2.env[i]? = some e0) (ho : e0.isO = false) (nb : (s2.env.set i .no).all nbV = true) (nk : nbKs ks = true) :
    Step K P ex σ s H σ { s2 with env := s2.env.set i (.od ks) } (upd H2 a (.dK kvs)) ∧ Kq (OO P (a :: ex) s2 σ) H2 (upd H2 a (.dK kvs)) ∧ (OO P ex { s2 with env := s2.env.set i (.od ks) } σ).Perm (OO P (a :: ex) s2 σ) := by
  obtain ⟨r1, pm1⟩ := rel.lend (od := od) q es hd hk rk
  have pm2 : (OO P ex { s2 with env := s2.env.set i (.od ks) } σ).Perm (OO P (a :: ex) s2 σ) := oo_lift ho rfl h0 es
  have am : a ∈ owns s.env σ := own1_sub q es a (by simp [own1, DV.isO])
  obtain ⟨c1, c2, c3, c4, c5⟩ := rel.sep
  obtain ⟨d1, d2, d3, d4, d5⟩ := st.rel.sep
  have e2 : H2 a = some (.frz od (.dK kvs)) := (st.exk a (List.mem_cons_self ..)).trans upd_same
  have aO : a ∈ OO P (a :: ex) s2 σ := oo_mem.mpr (.inr (.inl (List.mem_cons_self ..)))
  have kq : Kq (OO P (a :: ex) s2 σ) H2 (upd H2 a (.dK kvs)) := fun b n o e => by
    rw [upd_ne fun (z : b = a) => n (z ▸ aO)]
    exact .inl e
  have sub : ∀ b ∈ OO P ex { s2 with env := s2.env.set i (.od ks) } σ, b ∈ OO P (a :: ex) s2 σ := fun b hb => pm2.mem_iff.mp hb
  have kp1 : Kp (OO P ex s σ) H (upd H a (.frz od (.dK kvs))) := .updO (oo_mem.mpr (.inr (.inr am))) (.dK hd)
  have sub1 : ∀ b ∈ OO P (a :: ex) { s with env := s.env.set i (.d (.bor ks)) } σ, b ∈ OO P ex s σ := fun b hb => pm1.mem_iff.mpr hb
  have rk2 : Rps K P (OO P (a :: ex) s2 σ) H2 (kvs.map (·.2)) (ks.map (·.2)) := ((rk.kp kp1).anti sub1).kr st.kr
  have Pa : P ≠ a := fun z => c2 (z ▸ am)
  have back : ∀ b, b ∉ OO P ex s σ ∨ (∃ o, Stl o ∧ H b = some o) → b ≠ a := fun b hb z => by
    subst z
    rcases hb with hb | ⟨o, so, e⟩
    · exact hb (oo_mem.mpr (.inr (.inr am)))
    · rw [hd] at e
      cases e
      exact so
  refine ⟨⟨⟨pm2.nodup_iff.mpr st.rel.nd, ?_, ?_, fun b hb => ?_⟩, ⟨fun b n o e => ?_, fun b o so e => ?_⟩, fun b hb => ?_, fun b hb => ?_⟩, kq, pm2⟩
  · have p0 : Paired (fun e r => (SlotOk K P (OO P (a :: ex) s2 σ) H2 e r ∧ nbV e = true ∧ a ∉ own1 e r) ∨ (e = .od ks ∧ r = some (.ref a))) (s2.env.set i (.od ks)) (σ.set i (some (.ref a))) := by
      have gen : ∀ {es : List DV} {τ : St} {i : Nat}, Paired (SlotOk K P (OO P (a :: ex) s2 σ) H2) es τ → (∀ b ∈ owns es τ, b ≠ a) → (es.set i .no).all nbV = true → es[i]? = some e0 → τ[i]? = some (some (.ref a)) → Paired (fun e r => (SlotOk K P (OO P (a :: ex) s2 σ) H2 e r ∧ nbV e = true ∧ a ∉ own1 e r) ∨ (e = .od ks ∧ r = some (.ref a))) (es.set i (.od ks)) (τ.set i (some (.ref a))) := by
        intro es τ i p
        induction p generalizing i with
        | nil => intro _ _ h _; simp at h
        | @cons e r l m h1 t ih =>
          intro na nb h h'
          have na1 : ∀ b ∈ own1 e r, b ≠ a := fun b hb => na b (List.mem_append_left _ hb)
          have na2 : ∀ b ∈ owns l m, b ≠ a := fun b hb => na b (List.mem_append_right _ hb)
          cases i with
          | zero =>
            simp at h h'
            subst h
            subst h'
            simp only [List.set_cons_zero, List.all_cons, Bool.and_eq_true] at nb
            refine .cons (.inr ⟨rfl, rfl⟩) ?_
            have gen2 : ∀ {l : List DV} {m : St}, Paired (SlotOk K P (OO P (a :: ex) s2 σ) H2) l m → (∀ b ∈ owns l m, b ≠ a) → l.all nbV = true → Paired (fun e r => (SlotOk K P (OO P (a :: ex) s2 σ) H2 e r ∧ nbV e = true ∧ a ∉ own1 e r) ∨ (e = .od ks ∧ r = some (.ref a))) l m := by
              intro l m p
              induction p with
              | nil => intro _ _; exact .nil
              | @cons e r l m h1 t ih =>
                intro na nb
                rw [List.all_cons, Bool.and_eq_true] at nb
                exact .cons (.inl ⟨h1, nb.1, fun z => na a (List.mem_append_left _ z) rfl⟩) (ih (fun b hb => na b (List.mem_append_right _ hb)) nb.2)
            exact gen2 t na2 nb.2
          | succ i =>
            simp only [List.set_cons_succ, List.all_cons, Bool.and_eq_true] at nb
            exact .cons (.inl ⟨h1, nb.1, fun z => na1 a z rfl⟩) (ih na2 nb.2 (by simpa using h) (by simpa using h'))
      exact gen st.rel.sl (fun b hb z => d3 a (List.mem_cons_self ..) (z ▸ hb)) nb h0 es
    rw [set_same es] at p0
    refine Paired.own p0 fun e r _ x => ?_
    rcases x with ⟨x, n, m⟩ | ⟨rfl, rfl⟩
    · exact (x.nb kq (fun b hb => upd_ne fun z => m (z ▸ hb)) n).kr (.anti sub) fun _ _ => rfl
    · exact ⟨a, kvs, rfl, upd_same, hk, ((rk2.nb kq (nbKs_vals nk)).anti sub)⟩
  · obtain ⟨c, p1, p2, p3⟩ := st.rel.pen.at_
    have : PenOk P (OO P (a :: ex) s2 σ) (upd H2 a (.dK kvs)) s2.pen := ⟨⟨c, (upd_ne Pa).trans p1, p2, (upd_ne fun (z : c = a) => p2 (z ▸ aO)).trans p3⟩, st.rel.pen.lo, st.rel.pen.hi, st.rel.pen.gg, tabs_upd st.rel.pen.tab (fun ps z => by rw [e2] at z; cases z) (fun ps z => by rw [e2] at z; cases z), st.rel.pen.n⟩
    exact this.anti sub
  · obtain ⟨o, e⟩ := st.rel.exs b (List.mem_cons_of_mem _ hb)
    exact ⟨o, (upd_ne fun (z : b = a) => c3 b hb (z ▸ am)).trans e⟩
  · have hba := back b (.inl n)
    rw [upd_ne hba]
    exact st.keep.1 b (fun z => n (sub1 b z)) o ((upd_ne hba).trans e)
  · have hba := back b (.inr ⟨o, so, e⟩)
    rw [upd_ne hba]
    exact st.keep.2 b o so ((upd_ne hba).trans e)
  · have hba : b ≠ a := fun z => c3 b hb (z ▸ am)
    rw [upd_ne hba, st.exk b (List.mem_cons_of_mem _ hb), upd_ne hba]
  · have hb : b ∈ a :: owns s2.env σ := (owns_lift ho rfl h0 es).mem_iff.mp hb
    rcases List.mem_cons.mp hb with rfl | hb
    · exact .inl am
    · rcases st.own b hb with z | z
      · refine .inl ?_
        have hb1 : b ∈ OO P ex s σ := sub1 b (oo_mem.mpr (.inr (.inr z)))
        rcases oo_mem.mp hb1 with h | h | h
        · exact (d2 (h ▸ hb)).elim
        · exact (d3 b (List.mem_cons_of_mem _ h) hb).elim
        · exact h
      · refine .inr ?_
        have hba : b ≠ a := fun h => d3 a (List.mem_cons_self ..) (h ▸ hb)
        rw [upd_ne hba] at z
        exact z
end
def gLend (i : Nat) (g : DSt → Out Dat) : DSt → Out Dat := fun s => match s.env[i]? with
  | some (.od ks) => (match g { s with env := s.env.set i (.d (.bor ks)) } with
    | .ok d s2 => if nbD d = true ∧ (s2.env.set i .no).all nbV = true ∧ nbKs ks = true ∧ (s2.env.getD i (.od [])).isO = false then .ok d { s2 with env := s2.env.set i (.od ks) } else .no
    | _ => .no)
  | _ => .no
theorem de_lend {X : Cx} {W : WX} {e : Expr} {i : Nat} {g : DSt → Out Dat} (h : DE X W e g) : DE X W e (gLend i g) := ⟨fun pins s0 σ H Q I ⟨P, ex, s, rel, f⟩ => by
  unfold gLend at f
  cases q : s.env[i]? with
  | none => rw [q] at f; exact f.elim
  | some w =>
    rw [q] at f
    cases w with
    | od ks =>
      dsimp only at f
      obtain ⟨a, kvs, es, hd, hk, rk⟩ := slot_od rel q
      obtain ⟨od, I1⟩ := I.lock hd trivial
      have nf := I.nofrz hd trivial
      obtain ⟨r1, pm1⟩ := rel.lend (od := od) q es hd hk rk
      cases q2 : g { s with env := s.env.set i (.d (.bor ks)) } with
      | no => rw [q2] at f; exact f.elim
      | ex C fs p => rw [q2] at f; exact f.elim
      | ok d s2 =>
        rw [q2] at f
        obtain ⟨⟨n1, n2, n3, n4⟩, f⟩ := Fin.if f
        have t : tG X.K (RP X.K) W g σ (upd H a (.frz od (.dK kvs))) (fun v H2 => Step X.K P (a :: ex) σ { s with env := s.env.set i (.d (.bor ks)) } (upd H a (.frz od (.dK kvs))) σ s2 H2 ∧ Rp X.K P (OO P (a :: ex) s2 σ) H2 v d) :=
          ⟨P, a :: ex, _, r1, by rw [q2]; exact fun H2 v st r => ⟨st, r⟩⟩
        refine thn (h.run pins s0 σ _ _ I1 t) fun u s' ⟨v, H2, I2, r, st, rv⟩ => ?_
        have e2 : H2 a = some (.frz od (.dK kvs)) := (st.exk a (List.mem_cons_self ..)).trans upd_same
        have hi : i < s2.env.length := by
          rw [st.rel.lens]
          exact (List.getElem?_eq_some_iff.mp es).1
        obtain ⟨st3, kq, pm2⟩ := Step.unlend rel q es hd hk rk st (e0 := s2.env[i]) (List.getElem?_eq_getElem hi) (by simpa [hi] using n4) n2 n3
        exact ⟨v, _, I2.unlock e2 nf, r, f _ _ st3 ((rv.nb kq n1).anti fun b hb => pm2.mem_iff.mp hb)⟩
    | _ => exact f.elim⟩
end BD
namespace BD
open PySem PySem.Spec PyProof.Rows L2
theorem ne_bind (self : Value) : bindSpecial (.builtin "object.__ne__") self = pure (.builtin "object.__ne__", [self]) :=
  (Slot.of (T := "object") (name := "__ne__") (owner := "object") (n := "__ne__") (by rw [typeLookup_type, builtinLookup_eq_fast]; kernel_rfl) (by decide +kernel) (by decide +kernel) (by decide +kernel)
    (.inl (by decide +kernel)) (by rw [isSubtype_type]; kernel_rfl)).bind self
theorem ne_plain : plainId "object.__ne__" = true := by decide +kernel
section
variable {prog : Program} {w : World} {A : Around} {E : Value → Shared → Prop} {s : Shared} {K : PySem.W.Frag} {x C f : Addr} {ox : Obj} {od : Option Obj} {b tb : Value}
theorem cmpNe_K {Q : Value → Shared → Prop} (hu : A.units + 1 < cLine) (X : K.In s.heap) (I : PySem.W.InstAt s.heap x ox C od) (hb : PySem.W.Looks (model prog w) s.heap (typeOf b) tb) (hn : PySem.W.notFirst K C tb = true)
    (hs : PySem.W.findIn K (.ref C) "__ne__" = some (some (.builtin "object.__ne__"))) (he : PySem.W.findIn K (.ref C) "__eq__" = some (some (.ref f))) (hf : PySem.W.isFn K (.ref f) = true) (ho : PySem.W.mroIn K C (.type "object") = some true)
    (h : wpAny (model prog w) A.in1 (call (.ref f) [.ref x, b]) (fun v s' => ∃ r, v = .bool r ∧ Q (.bool (!r)) s') E s) : wpAny (model prog w) A (compareOp .NotEq (.ref x) b) Q E s := by
  have one : wpAny (model prog w) A (tryCompare (.ref x) "__ne__" b) (fun r s' => ∃ v, r = some v ∧ Q v s') E s := by
    unfold tryCompare
    refine wpAny_bind ?_
    simp only [callSpecialIfBound?, bindSpecialIfBound?]
    refine wpAny_holding (wpAny_bind (wpAny_bind (wpAny_bind (I.type.here ((PySem.W.looks_findIn X hs).here ?_)))))
    refine wpAny_bind (wpAny_askSetting (wpAny_ite ?_))
    have fin : wpAny (model prog w) A (call (.builtin "object.__ne__") ([.ref x] ++ [b])) (fun v s' => ∃ r, v = .bool r ∧ Q (.bool r) s') E s := by
      refine wpAny_call (codeAny_call_builtin ne_plain F.cmpEntry_ne (@PySem.W.check_slot (model prog w) _ _ s "object.__ne__" "object" "__ne__" (.ref x) [b] [] _ F.cmpKind_ne F.cmpSplit_ne (I.type.andThen (PySem.W.looks_mroIn X ho)) (F.cmpArgs_ne _ _) ?_))
      unfold Builtin.«object.__ne__»
      refine wpAny_bind (m := slotArgs "__ne__" 1 _) (wpAny_pure ?_)
      dsimp only
      refine wpAny_bind (wpAny_cRoomFor hu ?_)
      refine wpAny_bind (PySem.W.ifBound_K X I he hf (wpAny_mono h (fun v s' hv => ?_) fun _ _ e => e))
      obtain ⟨r, rfl, q⟩ := hv
      dsimp only
      exact wpAny_bind (wpAny_truthy_bool (wpAny_pure ⟨_, rfl, q⟩))
    have fin2 : wpAny (model prog w) A (call (.builtin "object.__ne__") ([.ref x] ++ [b]) >>= fun v => pure (some v)) (fun a s' => wpAny (model prog w) A (match a with | some .notImplemented => pure none | none => pure none | some r => pure (some r)) (fun r s' => ∃ v, r = some v ∧ Q v s') E s') E s := by
      refine wpAny_bind (wpAny_mono fin (fun v s' hv => ?_) fun _ _ e => e)
      obtain ⟨r, rfl, q⟩ := hv
      exact wpAny_pure (wpAny_pure ⟨_, rfl, q⟩)
    simp only [ne_bind]
    split
    · exact wpAny_bind (wpAny_pure (wpAny_pure fin2))
    · exact wpAny_tryCatch (wpAny_bind (wpAny_pure (wpAny_pure fin2)))
  unfold compareOp richCompare
  simp only [oneThing_ref]
  refine wpAny_holding (wpAny_bind (wpAny_cRoomFor (Nat.lt_of_succ_lt hu) ?_))
  rw [cmpInfo_NotEq]
  dsimp only
  refine wpAny_bind (I.type.here (wpAny_bind (hb.here ?_)))
  have go : wpAny (model prog w) A (tryCompare (.ref x) "__ne__" b) (fun r s' => ∃ v, r = some v ∧ Q v s') E s := one
  split
  · rename_i q
    have e : PySem.W.subIn K tb (.ref C) = some false := by
      rcases Bool.or_eq_true_iff.mp hn with e | e
      · rw [beq_iff_eq.mp e] at q
        simp at q
      · exact beq_iff_eq.mp e
    refine wpAny_bind ((PySem.W.looks_subIn X e).here ?_)
    simp only [Bool.false_eq_true, if_false]
    refine wpAny_bind (wpAny_mono go (fun r s' z => ?_) fun _ _ e => e)
    obtain ⟨v, rfl, hq⟩ := z
    exact wpAny_pure hq
  · refine wpAny_bind (wpAny_pure ?_)
    simp only [Bool.false_eq_true, if_false]
    refine wpAny_bind (wpAny_mono go (fun r s' z => ?_) fun _ _ e => e)
    obtain ⟨v, rfl, hq⟩ := z
    exact wpAny_pure hq
end
/-- what == and != of an own class ask of the class: its __eq__, no __ne__; tys: what it is compared with -/
structure EqC (K : PySem.W.Frag) (C f : Addr) (tys : List Value) : Prop where
  eq : PySem.W.findIn K (.ref C) "__eq__" = some (some (.ref f))
  ne : PySem.W.findIn K (.ref C) "__ne__" = some (some (.builtin "object.__ne__"))
  ob : PySem.W.mroIn K C (.type "object") = some true
  nf : ∀ t ∈ tys, PySem.W.notFirst K C t = true
  ins : InsK K C
def isPen : Dat → Bool
  | .pen => true
  | _ => false
theorem not_pen {d : Dat} (h : isPen d = false) : d ≠ .pen := fun e => by rw [e] at h; cases h
def hEqO (n : Bool) (ok : Addr → Bool) (tys : List Value) (G : FD) : Dat → Dat → DSt → Out Dat := fun o y s => match o with
  | .ins C fs => if ok C = true ∧ isPen y = false ∧ tys.any (fun t => t == tyD y) = true then (callO G [.ins C fs, y] s).bind fun v s1 => (match v with
      | .bl b => .ok (.bl (n != b)) s1
      | _ => .no) else .no
  | _ => .no
section
variable {X : Cx} {W : WX}
def rEqO (K : PySem.W.Frag) (n : Bool) (ok : Addr → Bool) (tys : List Value) (sp : Sp) : R2 := fun x y H Q => ∃ a C dx fs t, x = .ref a ∧ H a = some (.ins C dx fs) ∧ ok C = true ∧ TyX K H y t ∧ t ∈ tys ∧ sp [.ref a, y] H (fun v H' => ∃ b, v = .bl b ∧ Q (.bl (n != b)) H') E0
theorem op_eqO {k : Nat} {f : Addr} {fd : FuncData} {ps : List Str} {sp : Sp} {ok : Addr → Bool} {tys : List Value} (F : FnOk X.prog X.w X.K X.mg X.base CX0 k f fd ps sp) (hr : Room k X.A) (hu : X.A.units < cLine) (hb : Binds X.K fd ps []) (hC : ∀ C, ok C = true → EqC X.K C f tys) (hf : PySem.W.isFn X.K (.ref f) = true) :
    OpR X (compareOp .Eq) (rEqO X.K false ok tys sp) := by
  intro pins s σ H x y u v Q I rx ry h
  obtain ⟨a, C, dx, fs, t, rfl, ea, hk, ty, ht, h⟩ := h
  cases (show u = Value.ref a from rx)
  obtain ⟨mA, O, _⟩ := ins_get I.hok ea
  obtain ⟨od, J, _⟩ := O.look
  obtain ⟨m, fr⟩ := I.fr
  obtain ⟨P, kx, p, _⟩ := kit_of I ry ty
  have c := hC C hk
  refine PySem.W.cmp_ofEq (PySem.W.cmp_K hu fr I.ok.mod.kin J (kx.ty _ _ I.kIn p) (c.nf t ht) c.eq hf (run_0 (vs := [.ref a, y]) F hr hb I (.cons rfl (.cons ry .nil)) h fun u s' ep => ?_))
  obtain ⟨v', H', I', rv, b, rfl, q⟩ := ep
  cases rv
  refine ⟨.bl b, H', I', rfl, ?_⟩
  cases b <;> exact q
theorem op_neO {k : Nat} {f : Addr} {fd : FuncData} {ps : List Str} {sp : Sp} {ok : Addr → Bool} {tys : List Value} (F : FnOk X.prog X.w X.K X.mg X.base CX0 k f fd ps sp) (hr : Room (k + 1) X.A) (hu : X.A.units + 1 < cLine) (hb : Binds X.K fd ps []) (hC : ∀ C, ok C = true → EqC X.K C f tys) (hf : PySem.W.isFn X.K (.ref f) = true) :
    OpR X (compareOp .NotEq) (rEqO X.K true ok tys sp) := by
  intro pins s σ H x y u v Q I rx ry h
  obtain ⟨a, C, dx, fs, t, rfl, ea, hk, ty, ht, h⟩ := h
  cases (show u = Value.ref a from rx)
  obtain ⟨mA, O, _⟩ := ins_get I.hok ea
  obtain ⟨od, J, _⟩ := O.look
  obtain ⟨P, kx, p, _⟩ := kit_of I ry ty
  have c := hC C hk
  refine cmpNe_K hu I.kIn J (kx.ty _ _ I.kIn p) (c.nf t ht) c.ne c.eq hf c.ob (run_in1 (vs := [.ref a, y]) F hr hb I (.cons rfl (.cons ry .nil)) h fun u s' ep => ?_)
  obtain ⟨v', H', I', rv, b, rfl, q⟩ := ep
  cases rv
  refine ⟨b, rfl, .bl (!b), H', I', rfl, ?_⟩
  cases b <;> exact q
theorem d2_eqO {n : Bool} {k : Nat} {f : Addr} {fd : FuncData} {ps : List Str} {G : FD} {ok : Addr → Bool} {tys : List Value} (F : FnD X.prog X.w X.K X.mg X.base CX0 k f fd ps G) (hne : ∀ ds p C fs p', G ds p ≠ .ex C fs p') (hI : ∀ C, Value.ref C ∈ tys → InsK X.K C) :
    D2P X W (rEqO X.K n ok tys (spD X.K ps.length G)) (hEqO n ok tys G) := fun P ex s σ H x y dx dy Q rel hx hy fn => by
  cases hx with
  | @ins a C dx vfs fs nO ea en rs =>
    obtain ⟨⟨h1, h2, h3⟩, f2⟩ := Fin.if fn
    have h3 : tyD dy ∈ tys := by
      obtain ⟨t, ht, e⟩ := List.any_eq_true.mp h3
      exact beq_iff_eq.mp e ▸ ht
    refine ⟨a, C, dx, vfs, tyD dy, rfl, ea, h1, vw_ty hy.vw (not_pen h2) (fun C' e => hI C' (e ▸ h3)), h3, sp_call rel F.len (.cons (.ins nO ea en rs) (.cons hy .nil)) (fun C fs p H' od q _ => (hne _ _ _ _ _ q).elim) (fin_seq (R := RP X.K) (show Fin X.K P ex (RP X.K) W σ s H Q ((callO G [.ins C fs, dy] s).bind _) from f2) fun z s2 H2 b st2 rz f3 => ?_)⟩
    have rz : Rp X.K P (OO P ex s2 σ) H2 b z := rz
    cases rz with
    | bl b => exact ⟨b, rfl, fin_ok f3 st2.rel (Rp.bl _)⟩
    | _ => exact f3.elim
  | _ => exact fn.elim
end
end BD
namespace BD
open PySem PySem.Spec PyProof.Rows L2
def titObj (l : Addr) : Obj := { cls := .type "tuple_iterator", data := .fields #[.ref l, .int 0 0] }
def TitO (l it : Addr) : HO := .ext fun h => h.get? it = some (titObj l)
theorem titO_ok {P : Program} {w : World} {H : Hp} {h : Heap} {l it : Addr} (e : h.get? it = some (titObj l)) : ObjOk P w H h it (TitO l it) := ⟨e, ⟨_, e⟩, fun h1 h2 q k => k _ q⟩
section
variable {X : Cx} {W : WX}
theorem call_iterTN : CallR X (.builtin "iter") (fun xs H Q => ∃ (l : Addr) (zs : List V), xs = [.ref l] ∧ SqT X.K H l zs ∧ ∀ it, H it = none → X.s_0.heap.objs.size ≤ it → Q (.ref it) (upd H it (TitO l it))) := by
  intro pins s σ H xs us Q I r h
  obtain ⟨l, zs, rfl, hq, q⟩ := h
  obtain ⟨u, rfl, ru⟩ := vals1 r
  cases ru
  obtain ⟨its, rv, pl, hz⟩ := I.tuple hq
  refine Calls.call_function_entry (by decide +kernel) (by decide +kernel) PySem.W.kdk_entry_iter (PySem.W.kdk_args_iter _) ?_
  unfold Builtin.«iter»
  refine wpAny_bind (m := someArgs "iter" 1 2 _) (wpAny_of_eq (a := [Value.ref l]) (by first | rfl | kernel_rfl!) ?_)
  refine wpAny_bind (m := pyIter (.ref l)) (wpAny_pyIter_tuple (show s.heap.IsTuple l its.toArray from pl) (wpAny_pure ⟨_, rfl, ?_⟩))
  exact ⟨.ref s.heap.objs.size, _, I.laid (t' := s.toks) (fun b u e => Heap.get?_push_of_some _ e) (Nat.le_refl _) (titO_ok (Heap.get?_push_size _ rfl)), rfl, q _ (I.hok.fresh (Nat.le_refl _)) I.sz⟩
/-- the def at f, called with an instance of C, gives a new iterator of the tuple in its field nm -/
structure ItFn (P : Program) (w : World) (K : PySem.W.Frag) (mg : Str → Option Value) (base : Heap) (k : Nat) (f C : Addr) (nm : Str) : Prop where
  run : ∀ (A : Around) (outer : List Env) (s : Shared) (H : Hp) (a dx l : Addr) (fs : List (Str × V)) (zs : List V), Room k A → Env0 P w K mg base A outer s H → H a = some (.ins C dx fs) → fs.lookup nm = some (.ref l) → SqT K H l zs →
    codeAny (model P w) A (.call (.ref f) ⟨[.ref a], []⟩) (CR CX0 outer P w H s (fun v H' => ∃ it, v = .ref it ∧ H it = none ∧ s.heap.objs.size ≤ it ∧ H' = upd H it (TitO l it)) E0) s
def iOwn (K : PySem.W.Frag) (ok : Addr → Bool) (nm : Str) (te : TE) : TI := fun σ H R => te σ H fun x H1 => ∃ a C dx fs l zs, x = .ref a ∧ H1 a = some (.ins C dx fs) ∧ ok C = true ∧ fs.lookup nm = some (.ref l) ∧ SqT K H1 l zs ∧ R (Itt K l) H1
theorem pi_own {tg e : Expr} {te : TE} {ok : Addr → Bool} {nm : Str} {k : Nat} {f : Addr} (he : PE X e te) (hF : ∀ C, ok C = true → ItFn X.prog X.w X.K X.mg X.base k f C nm) (hs : ∀ C, ok C = true → PySem.W.findIn X.K (.ref C) "__iter__" = some (some (.ref f))) (hf : PySem.W.isFn X.K (.ref f) = true) (hr : Room k X.A) : PI X tg e (iOwn X.K ok nm te) := by
  refine ⟨fun pins s σ H R I h => ?_⟩
  refine thn (he.run pins s σ H _ I h) fun v s1 ⟨x, H1, I1, r1, a, C, dx, fs, l, zs, ex, ea, hk, hl, sq, q⟩ => ?_
  subst ex
  cases r1
  obtain ⟨mA, O, _⟩ := ins_get I1.hok ea
  obtain ⟨od, J, _⟩ := O.look
  obtain ⟨m, fr⟩ := I1.fr
  refine PySem.W.owit_iter fr I1.ok.mod.kin J (hs C hk) hf (wpAny_call (codeAny_mono ((hF C hk).run X.A X.stack s1 H1 a dx l fs zs hr I1.env0 ea hl sq) fun r s' hq => ?_))
  cases r with
  | error e => exact False.elim hq
  | ok fl =>
    cases fl with
    | ret u =>
      obtain ⟨v, H2, I2, rv, it, ev, nit, hsz, eH⟩ := I1.after hq
      subst ev
      subst eH
      cases rv
      have hi : upd H1 it (TitO l it) it = some (TitO l it) := upd_same
      have eo : s'.heap.get? it = some (titObj l) := (I2.hok it _ hi).1
      unfold PySem.W.OwitIt
      refine wpAny_specialOf (T := "tuple_iterator") ⟨_, eo, rfl⟩ F.slot_tuple_iterator_next.lookup ?_
      have st : s'.heap.IsTupleIter it l 0 := ⟨_, eo, rfl, rfl⟩
      have hi' : upd H1 it (TitO l it) it = some (.ext fun h => h.get? it = some (titObj l)) := upd_same
      have J2 := ItX.inv_drop I2 hi'
      have fp := ItX.inv_fp I2 hi' (Nat.le_trans I1.sz hsz)
      rw [ItX.dropH_upd nit] at J2 fp
      exact ⟨it, [it], _, _, H1, rfl, J2, turn_tuple l it, st, fun b hb => by rw [show b = it by simpa using hb]; exact fp, q⟩
    | next => exact False.elim hq
    | brk => exact False.elim hq
    | cont => exact False.elim hq
def rIterTN (X : Cx) : List V → Hp → VK → Prop := fun xs H Q => ∃ (l : Addr) (zs : List V), xs = [.ref l] ∧ SqT X.K H l zs ∧ ∀ it, H it = none → X.s_0.heap.objs.size ≤ it → Q (.ref it) (upd H it (TitO l it))
/-- the def by its text: return iter(self.nm) -/
theorem itFn {P : Program} {w : World} {K : PySem.W.Frag} {mg : Str → Option Value} {base : Heap} {x qual nm : Str} {st : Stmt} {f C : Addr} {fd : FuncData} {N : List Str} {y : Str} {k : Nat} (F : Fun K x qual st f fd) (S : FnScope N [y] (defScope st)) (hb : Binds K fd [y] []) (hC : Cls K C ∧ NoAttr K C nm)
    (hbody : ∀ (cdv : Value) (A : Around) (outer : List Env) (s : Shared) (H : Hp) (E : XK), PSs (cxOf CX0 P w K mg base N qual (defScope st) f cdv A outer s H E) (defBody st) (tRet (tCB (rIterTN (cxOf CX0 P w K mg base N qual (defScope st) f cdv A outer s H E)) (tCons (tFld K (tVar 0) nm) tNil)))) :
    ItFn P w K mg base (k + 1) f C nm := by
  obtain ⟨oc, od, kV, doc, pm, an, cdv, ct, osl, rfl, lk, hcd⟩ := F.ex
  refine ⟨fun A outer s H a dx l fs zs hr e0 ea hl sq => ?_⟩
  have hbb := hb s [.ref a] (e0.mod.kin.keeps fun b o e => (e0.bs b o e).1) rfl
  refine LamX.run_ofS lk hcd S hr e0 (us := [.ref a]) (vs := [.ref a]) (by simpa using hbb) (.cons rfl .nil) rfl fun hr2 => ⟨_, hbody cdv A outer s H E0, ?_⟩
  refine ⟨.ref a, ?_, a, C, dx, fs, .ref l, rfl, ea, hC.1, hC.2, hl, l, zs, rfl, sq, fun it n1 n2 => ⟨it, rfl, n1, n2, rfl⟩⟩
  unfold L2.start
  rfl
def gIown (ok : Addr → Bool) (nm : Str) (g : DSt → Out Dat) : DSt → Out (List Dat) := fun s => (g s).bind fun d s1 => match d with
  | .ins C fs => if ok C = true then (match fs.lookup nm with | some (.tup xs) => .ok xs s1 | _ => .no) else .no
  | _ => .no
theorem di_own {tg e : Expr} {g : DSt → Out Dat} {ok : Addr → Bool} {nm : Str} {k : Nat} {f : Addr} (h : DE X W e g) (hF : ∀ C, ok C = true → ItFn X.prog X.w X.K X.mg X.base k f C nm) (hs : ∀ C, ok C = true → PySem.W.findIn X.K (.ref C) "__iter__" = some (some (.ref f))) (hf : PySem.W.isFn X.K (.ref f) = true) (hr : Room k X.A) :
    DIt X W tg e (gIown ok nm g) := PI.imp (pi_own h hF hs hf hr) fun σ H R ⟨P, ex, s, rel, f⟩ => by
  unfold gIown at f
  refine tG_seqI rel f fun d s1 H1 v st rv f1 => ?_
  have rv : Rp X.K P (OO P ex s1 σ) H1 v d := rv
  cases rv with
  | @ins a C dx vfs fs nO ea en rs =>
    dsimp only at f1
    by_cases hk : ok C = true
    case neg => rw [if_neg hk] at f1; exact f1.elim
    rw [if_pos hk] at f1
    rcases look_rp nm en rs with ⟨z1, z2⟩ | ⟨d', v', z1, z2, rv⟩
    · rw [z1] at f1
      exact f1.elim
    · rw [z1] at f1
      cases rv with
      | @tup l vs xs hs rs2 =>
        refine ⟨a, C, dx, vfs, l, vs, rfl, ea, hk, z2, hs.sq, ?_⟩
        refine f1 (Itt X.K l) H1 (.refl st.rel) ⟨_, _, rs2.length ▸ walk_tup (xs := vs), fun O' H' k => (tpO_kr hs k).sq, fun i O' H' x H'' hi k y => ?_⟩
        obtain ⟨d, e1, r1⟩ := rs2.getV y.2
        exact ⟨d, e1, .inl ⟨y.1, r1.kr k⟩⟩
      | _ => exact f1.elim
  | _ => exact f1.elim
end
end BD
namespace BD
open PySem PySem.Spec PyProof.Rows L2
section
variable {X : Cx} {W : WX}
def hStrO (ok : Addr → Bool) (G : FD) : Dat → DSt → Out Dat := fun d s => match d with
  | .str x => .ok (.str x) s
  | .ins C fs => if ok C = true then (callO G [.ins C fs] s).bind fun v s1 => (match v with
      | .str y => .ok (.str y) s1
      | _ => .no) else .no
  | _ => .no
theorem call_strO {k : Nat} {f : Addr} {fd : FuncData} {ps : List Str} {sp : Sp} {ok : Addr → Bool} (F : FnOk X.prog X.w X.K X.mg X.base CX0 k f fd ps sp) (hr : Room (k + 2) X.A) (hu : X.A.in1.in1.units < cLine) (hb : Binds X.K fd ps []) (hC : ∀ C, ok C = true → PySem.W.findIn X.K (.ref C) "__str__" = some (some (.ref f))) (hf : PySem.W.isFn X.K (.ref f) = true) :
    CallR X (.type "str") (fun xs H Q => ∃ a C dx fs, xs = [.ref a] ∧ H a = some (.ins C dx fs) ∧ ok C = true ∧ sp [.ref a] H (fun v H' => ∃ y, v = .str y ∧ Q (.str y) H') E0) := by
  intro pins s σ H xs us Q I r h
  obtain ⟨a, C, dx, fs, rfl, ea, hk, h⟩ := h
  rw [Vals.ref1 r]
  obtain ⟨mA, O, _⟩ := ins_get I.hok ea
  obtain ⟨od, J, _⟩ := O.look
  refine PySem.W.kso_call hu I.kIn J (hC C hk) hf ?_
  have hl : ([Value.ref a] ++ []).length = ps.length := F.len _ _ _ _ h
  have hb' := hb s [.ref a] I.kIn hl
  rw [List.append_nil] at hb'
  refine wpAny_call (codeAny_mono (F.run X.A.in1.in1 X.stack s H ⟨[.ref a], []⟩ [.ref a] [.ref a] _ E0 hr.in1.in1 I.env0.in1.in1 hb' (.cons rfl .nil) h) fun r s' hq => ?_)
  cases r with
  | error e => exact False.elim hq
  | ok fl =>
    cases fl with
    | ret u =>
      obtain ⟨v, H', I', rv, y, rfl, q⟩ := I.after hq
      obtain ⟨t, rfl⟩ := rv
      exact ⟨.str y, H', I', ⟨t, rfl⟩, q⟩
    | next => exact False.elim hq
    | brk => exact False.elim hq
    | cont => exact False.elim hq
theorem de_strO {k : Nat} {f : Addr} {fd : FuncData} {ps : List Str} {G : FD} {ok : Addr → Bool} {e : Expr} {p pos : Pos} {g : DSt → Out Dat} (F : FnD X.prog X.w X.K X.mg X.base CX0 k f fd ps G) (hne : ∀ ds p C fs p', G ds p ≠ .ex C fs p') (hr : Room (k + 2) X.A) (hu : X.A.in1.in1.units < cLine) (hb : Binds X.K fd ps [])
    (hC : ∀ C, ok C = true → PySem.W.findIn X.K (.ref C) "__str__" = some (some (.ref f))) (hf : PySem.W.isFn X.K (.ref f) = true) (hg : Gl X "str") (hm : X.mg "str" = none) (he : DE X W e g)
    (hs : starEach (e :: []) X.env = (false, eval e X.env) :: starEach [] X.env := by rfl) (hpl : (backTo pos (starEach [] X.env)).any (·.1) = false := by rfl) : DE X W (.Call (.Name "str" p) [e] [] pos) (fun s => (g s).bind (hStrO ok G)) :=
  PE.imp (pe_callTy (CallR.or (call_strO F.fn hr hu hb hC hf) SkE.call_str_str) hg hm (by decide +kernel) (pa_cons he pa_nil hs) (by decide) (by decide) hs hpl) fun σ H Q ⟨P, ex, s, rel, fn⟩ => by
    refine tG_seq rel fn fun d s1 H1 x st r f1 => ?_
    have r : Rp X.K P (OO P ex s1 σ) H1 x d := r
    cases r with
    | str z => exact .inr ⟨z, rfl, fin_ok f1 st.rel (Rp.str _)⟩
    | @ins a C dx vfs fs nO ea en rs =>
      obtain ⟨h1, f2⟩ := Fin.if f1
      refine .inl ⟨a, C, dx, vfs, rfl, ea, h1, sp_call st.rel F.len (.cons (.ins nO ea en rs) .nil) (fun C fs p H' od q _ => (hne _ _ _ _ _ q).elim) (fin_seq (R := RP X.K) (show Fin X.K P ex (RP X.K) W σ s1 H1 Q ((callO G [.ins C fs] s1).bind _) from f2) fun z s2 H2 b st2 rz f3 => ?_)⟩
      have rz : Rp X.K P (OO P ex s2 σ) H2 b z := rz
      cases rz with
      | str y => exact ⟨y, rfl, fin_ok f3 st2.rel (Rp.str _)⟩
      | _ => exact f3.elim
    | _ => exact f1.elim
abbrev DKw (X : Cx) (W : WX) (kws : List Keyword) (g : DSt → Out (List Dat)) : Prop := PK X kws (tG X.K (RA X.K) W g)
theorem PK.imp {kws : List Keyword} {t u : TA} (h : PK X kws t) (i : ∀ σ H Q, u σ H Q → t σ H Q) : PK X kws u := ⟨fun pos pins s σ H Q I q => h.run pos pins s σ H Q I (i σ H Q q)⟩
theorem dk_nil' : DKw X W [] gNil := PK.imp pk_nil fun σ H Q ⟨P, ex, s, rel, f⟩ => fin_ok f rel Rps.nil
theorem dk_cons' {nm : Option Str} {e : Expr} {kpos : Pos} {kws : List Keyword} {g : DSt → Out Dat} {gs : DSt → Out (List Dat)} (h : DE X W e g) (t : DKw X W kws gs) : DKw X W (⟨nm, e, kpos⟩ :: kws) (gCons g gs) :=
  PK.imp (pk_cons h t) fun σ H Q ⟨P, ex, s, rel, f⟩ => by
    unfold gCons at f
    refine tG_seq rel f fun a s1 H1 b st r f1 => ?_
    refine tG_seq st.rel f1 fun as s2 H2 bs st2 rs f2 => ?_
    exact fin_ok f2 st2.rel (Rps.cons (Rp.step r st2) rs)
/-- how the written values become the parameters' -/
def Arr (gV : List V → List V → List V) (n m : Nat) (gD : List Dat → List Dat → List Dat) : Prop := ∀ K P O H (x : Addr) (vs zs : List V) (ds es : List Dat), Rps K P O H vs ds → Rps K P O H zs es → ds.length = n → es.length = m → ∃ us, gV (.ref x :: vs) zs = .ref x :: us ∧ Rps K P O H us (gD ds es)
def gMakeK (C : Addr) (n m : Nat) (gD : List Dat → List Dat → List Dat) (G : FI) (ga gk : DSt → Out (List Dat)) : DSt → Out Dat := fun s => (ga s).bind fun ds s1 => (gk s1).bind fun es s2 => if ds.length = n ∧ es.length = m then (match G (gD ds es) s2.pen with
  | .ok fs p => .ok (.ins C fs) { s2 with pen := p }
  | .ex C' fs p => .ex C' fs p
  | .no => .no) else .no
theorem de_makeN {k n na : Nat} {f C : Addr} {fd : FuncData} {ps ks : List Str} {G : FI} {x : Str} {p pos : Pos} {e : Expr} {es : List Expr} {kws : List Keyword} {ga gk : DSt → Out (List Dat)} {g : List Value → List Value → List Value} {gV : List V → List V → List V} {gD : List Dat → List Dat → List Dat} (M : Mk X.K C f) (F : FnI X.prog X.w X.K X.mg X.base CX0 k f fd ps n C G) (hne : ∀ ds p C fs p', G ds p ≠ .ex C fs p') (hr : Room (k + 1) X.A) (hg : Gl X x) (hm : X.mg x = some (.ref C)) (hb : KBn X.K fd ps (na + 1) ks g gV) (ar : Arr gV na ks.length gD)
    (ha : DA X W (e :: es) ga) (hkw : DKw X W kws gk) (hall : (backToKw pos (keywordEach kws X.env)).all (·.1.isSome) = true := by rfl) (hks : (backToKw pos (keywordEach kws X.env)).filterMap (·.1) = ks := by rfl)
    (hdb : (x == ("__debug__" : Str)) = false := by decide) (he : starEach (e :: es) X.env = (false, eval e X.env) :: starEach es X.env := by rfl)
    (hpl : ((backTo pos (starEach (e :: es) X.env)).any (·.1) || (backToKw pos (keywordEach kws X.env)).any (·.1.isNone)) = false := by rfl) :
    DE X W (.Call (.Name x p) (e :: es) kws pos) (gMakeK C na ks.length gD G ga gk) := PE.imp (pe_makeN M F.fn hr hg hm hb pass0 ha hkw hall hks hdb he hpl) fun σ H Q ⟨P, ex, s, rel, f⟩ => by
  unfold gMakeK at f
  refine tG_seq rel f fun ds s1 H1 vs st r f1 => ?_
  refine tG_seq st.rel f1 fun es s2 H2 zs st2 r2 f2 => ?_
  have r : Rps X.K P (OO P ex s1 σ) H1 vs ds := r
  have r2 : Rps X.K P (OO P ex s2 σ) H2 zs es := r2
  obtain ⟨⟨h1, h2⟩, f3⟩ := Fin.if f2
  refine ⟨r.length.trans h1, r2.length.trans h2, fun x dx nx ndx hne' => ?_⟩
  obtain ⟨us, eu, ru⟩ := ar X.K P _ H2 x vs zs ds es (r.step st2) r2 h1 h2
  rw [eu]
  exact sp_make st2.rel F.len ru nx ndx hne' (fun C' fs p q => hne _ _ _ _ _ q) f3
theorem de_makeK0 {k n : Nat} {f C : Addr} {fd : FuncData} {ps ks : List Str} {G : FI} {x : Str} {p pos : Pos} {kws : List Keyword} {gk : DSt → Out (List Dat)} {g : List Value → List Value → List Value} {gV : List V → List V → List V} {gD : List Dat → List Dat → List Dat} (M : Mk X.K C f) (F : FnI X.prog X.w X.K X.mg X.base CX0 k f fd ps n C G) (hne : ∀ ds p C fs p', G ds p ≠ .ex C fs p') (hr : Room (k + 1) X.A) (hg : Gl X x) (hm : X.mg x = some (.ref C)) (hb : KBn X.K fd ps 1 ks g gV) (ar : Arr gV 0 ks.length gD)
    (hkw : DKw X W kws gk) (hall : (backToKw pos (keywordEach kws X.env)).all (·.1.isSome) = true := by rfl) (hks : (backToKw pos (keywordEach kws X.env)).filterMap (·.1) = ks := by rfl) (hdb : (x == ("__debug__" : Str)) = false := by decide)
    (hpl : ((backTo pos (starEach [] X.env)).any (·.1) || (backToKw pos (keywordEach kws X.env)).any (·.1.isNone)) = false := by rfl) :
    DE X W (.Call (.Name x p) [] kws pos) (gMakeK C 0 ks.length gD G gNil gk) := PE.imp (pe_makeK0 M F.fn hr hg hm hb pass0 hkw hall hks hdb hpl) fun σ H Q ⟨P, ex, s, rel, f⟩ => by
  unfold gMakeK at f
  have f : Fin X.K P ex (RP X.K) W σ s H Q ((gk s).bind fun es s2 => if ([] : List Dat).length = 0 ∧ es.length = ks.length then (match G (gD [] es) s2.pen with | .ok fs p => .ok (.ins C fs) { s2 with pen := p } | .ex C' fs p => .ex C' fs p | .no => .no) else .no) := f
  refine tG_seq rel f fun es s2 H2 zs st2 r2 f2 => ?_
  have r2 : Rps X.K P (OO P ex s2 σ) H2 zs es := r2
  obtain ⟨⟨h1, h2⟩, f3⟩ := Fin.if f2
  refine ⟨rfl, r2.length.trans h2, fun x dx nx ndx hne' => ?_⟩
  obtain ⟨us, eu, ru⟩ := ar X.K P _ H2 x [] zs [] es .nil r2 h1 h2
  rw [eu]
  exact sp_make st2.rel F.len ru nx ndx hne' (fun C' fs p q => hne _ _ _ _ _ q) f3
end
end BD
namespace BD
open PySem PySem.Spec PyProof.Rows L2
structure SMet (K : PySem.W.Frag) (C : Addr) (mc : Value) (m : Str) (p g : Addr) : Prop where
  rd : PySem.W.readsIn K C mc = true
  ga : PySem.W.specialIn K (.ref C) "__getattribute__" = some (some (.builtin "type.__getattribute__"))
  at_ : PySem.W.findCls K (.ref C) mc m = some (.get (.builtin "staticmethod.__get__") (.ref p) .none (.ref C))
  rc : ∃ rest, PySem.W.recIn K p "staticmethod" = some (.ref g :: rest)
  kp : PySem.W.keepIn K (.ref g) = true
section
variable {X : Cx} {W : WX}
theorem getsm_ok {pins : List (Addr × Obj)} {σ : St} {H : Hp} {s : Shared} {C p g : Addr} {mc : Value} {m : Str} {A : Around} {E : Value → Shared → Prop} {pl : Sem Bool} {Q : Value × List Value → Shared → Prop} (I : Inv X pins σ H s) (k : SMet X.K C mc m p g) (h : ∀ s', Inv X pins σ H s' → Q (.ref g, []) s') : wpAny (model X.prog X.w) A (getMethod (.ref C) m pl) Q E s := by
  obtain ⟨rest, hp⟩ := k.rc
  refine PySem.W.method_cls I.kIn k.ga (PySem.W.cls_bind I.kIn k.rd k.at_ ?_)
  refine wpAny_call (PySem.W.sm_get (s := { s with toks := s.toks + 1 }) I.kIn hp (PySem.W.handed_on rfl ?_))
  exact h _ (I.tok _)
theorem de_smeth {k : Nat} {C p g : Addr} {mc : Value} {m x : Str} {fd : FuncData} {ps : List Str} {G : FD} {np apos pos : Pos} {e : Expr} {es : List Expr} {ga : DSt → Out (List Dat)} {pl : Sem Bool} (M : SMet X.K C mc m p g) (F : FnD X.prog X.w X.K X.mg X.base CX0 k g fd ps G) (hne : ∀ ds p C fs p', G ds p ≠ .ex C fs p') (hr : Room k X.A) (hb : Binds X.K fd ps []) (hg : Gl X x) (hm : X.mg x = some (.ref C)) (ha : DA X W (e :: es) ga) (hdb : (x == ("__debug__" : Str)) = false := by decide)
    (hst : starEach (e :: es) X.env = (false, eval e X.env) :: starEach es X.env := by rfl) (hpl : (backTo pos (starEach es X.env)).any (·.1) = false := by rfl)
    (ht : eval (.Call (.Attribute (.Name x np) m apos) (e :: es) [] pos) X.env = (do
      let ov ← eval (.Name x np) X.env
      standAt apos.atName
      let (f, first) ← holding [ov] (getMethod ov m pl)
      callWith pos f first (backTo pos (starEach (e :: es) X.env)) (backToKw pos (keywordEach [] X.env))) := by rfl) :
    DE X W (.Call (.Attribute (.Name x np) m apos) (e :: es) [] pos) (gCall G ga) := ⟨fun pins s σ H Q I ⟨P, ex, s0, rel, f⟩ => by
  unfold gCall at f
  refine PySem.W.methodCall_KW (pl := pl) (ld_glob I hg hm ?_ hdb) ht
  refine getsm_ok I M fun s2 I2 => ?_
  have t : tG X.K (RA X.K) W ga σ H (fun vs H1 => spD X.K ps.length G vs H1 Q E0) := tG_seq rel f fun ds s1 H1 vs st r f1 => sp_call st.rel F.len r (fun C fs p H' od q _ => (hne _ _ _ _ _ q).elim) f1
  refine PySem.W.callWith_K (h₀ := X.base) I.ok.mod.kin M.kp (thn (ha.run pos pins s2 σ H _ I2 t) fun us s3 ⟨vs, H2, I3, rv, q2⟩ => ⟨I3.kIn, ?_⟩) hst hpl
  exact run_0 F.fn hr hb I3 rv q2 fun u s' ep => ep⟩
def gCallK (n m : Nat) (gD : List Dat → List Dat → List Dat) (G : FD) (ga gk : DSt → Out (List Dat)) : DSt → Out Dat := fun s => (ga s).bind fun ds s1 => (gk s1).bind fun es s2 => if ds.length = n ∧ es.length = m then (match G (gD ds es) s2.pen with
  | .ok d p => .ok d { s2 with pen := p }
  | .ex C fs p => .ex C fs p
  | .no => .no) else .no
def ArrF (gV : List V → List V → List V) (n m : Nat) (gD : List Dat → List Dat → List Dat) : Prop := ∀ K P O H (vs zs : List V) (ds es : List Dat), Rps K P O H vs ds → Rps K P O H zs es → ds.length = n → es.length = m → Rps K P O H (gV vs zs) (gD ds es)
theorem de_smethK0 {k : Nat} {C p g : Addr} {mc : Value} {m x : Str} {fd : FuncData} {ps ks : List Str} {G : FD} {np apos pos : Pos} {kws : List Keyword} {gk : DSt → Out (List Dat)} {pl : Sem Bool} {gg : List Value → List Value → List Value} {gV : List V → List V → List V} {gD : List Dat → List Dat → List Dat} (M : SMet X.K C mc m p g) (F : FnD X.prog X.w X.K X.mg X.base CX0 k g fd ps G) (hne : ∀ ds p C fs p', G ds p ≠ .ex C fs p') (hr : Room k X.A) (hb : KBn X.K fd ps 0 ks gg gV) (ar : ArrF gV 0 ks.length gD) (hg : Gl X x) (hm : X.mg x = some (.ref C)) (hkw : DKw X W kws gk) (hdb : (x == ("__debug__" : Str)) = false := by decide)
    (hall : (backToKw pos (keywordEach kws X.env)).all (·.1.isSome) = true := by rfl) (hks : (backToKw pos (keywordEach kws X.env)).filterMap (·.1) = ks := by rfl)
    (hpl : ((backTo pos (starEach [] X.env)).any (·.1) || (backToKw pos (keywordEach kws X.env)).any (·.1.isNone)) = false := by rfl)
    (ht : eval (.Call (.Attribute (.Name x np) m apos) [] kws pos) X.env = (do
      let ov ← eval (.Name x np) X.env
      standAt apos.atName
      let (f, first) ← holding [ov] (getMethod ov m pl)
      callWith pos f first (backTo pos (starEach [] X.env)) (backToKw pos (keywordEach kws X.env))) := by rfl) :
    DE X W (.Call (.Attribute (.Name x np) m apos) [] kws pos) (gCallK 0 ks.length gD G gNil gk) := ⟨fun pins s σ H Q I ⟨P, ex, s0, rel, f⟩ => by
  unfold gCallK at f
  have f : Fin X.K P ex (RP X.K) W σ s0 H Q ((gk s0).bind fun es s2 => if ([] : List Dat).length = 0 ∧ es.length = ks.length then (match G (gD [] es) s2.pen with | .ok d p => .ok d { s2 with pen := p } | .ex C fs p => .ex C fs p | .no => .no) else .no) := f
  refine PySem.W.methodCall_KW (pl := pl) (ld_glob I hg hm ?_ hdb) ht
  refine getsm_ok I M fun s2 I2 => ?_
  have t : tG X.K (RA X.K) W gk σ H (fun zs H1 => zs.length = ks.length ∧ spD X.K ps.length G (gV [] zs) H1 Q E0) := tG_seq rel f fun es s1 H1 zs st r f1 => by
    have r : Rps X.K P (OO P ex s1 σ) H1 zs es := r
    obtain ⟨⟨h1, h2⟩, f2⟩ := Fin.if f1
    exact ⟨r.length.trans h2, sp_call st.rel F.len (ar X.K P _ H1 [] zs [] es .nil r h1 h2) (fun C fs p H' od q _ => (hne _ _ _ _ _ q).elim) f2⟩
  refine PySem.W.callWith_KW0 (h₀ := X.base) I.ok.mod.kin M.kp hall ?_ hpl
  refine thn (hkw.run pos pins s2 σ H _ I2 t) fun ws s3 ⟨zs, H2, I3, rz, l2, q2⟩ => ⟨I3.kIn, ?_⟩
  rw [hks]
  exact run_fnN (us := []) (vs := []) F.fn hr hb pass0 I3 .nil rz rfl l2 q2⟩
end
section
variable {K : PySem.W.Frag} {x qual : Str} {params : Arguments} {body : List Stmt} {scope : Scope} {dvs : List V} {kws : List (Str × V)} {f : Addr} {fd : FuncData} {ps : List Str}
/-- n positional values, keywords named ks; the defaults are looked at -/
theorem kbn_dfl (F : FunD K x qual params body scope dvs kws f fd) (n : Nat) (ks : List Str) (g : {α : Type} → List α → List α → List α → List α) (hd : dvs ≠ [])
    (hrel : ∀ {vs ds zs : List V} {us its ws : List Value}, Vals vs us → Vals ds its → Vals zs ws → Vals (g vs ds zs) (g us its ws))
    (h : ∀ (T : Addr) (kV doc pm : Value) (an : Option Addr) (cdv ct : Value) (us its ws : List Value), us.length = n → its.length = dvs.length → ws.length = ks.length →
      ∃ k, bindArgs (PySem.W.fnOf x qual params body scope (.ref T) kV doc pm an cdv ct) ⟨us, ks.zip ws⟩ = seqItems? (.ref T) >>= k ∧ k (some its.toArray) = pure (ps.zip (g us its ws))) :
    ∃ its : List Value, KBn K fd ps n ks (fun us ws => g us its ws) (fun vs zs => g vs dvs zs) := by
  obtain ⟨oc, od, dV, kV, doc, pm, an, cdv, ct, osl, rfl, lk, hcd, hD, hK⟩ := F.ex
  rcases hD with ⟨e, _⟩ | ⟨_, T, o, its, m, rfl, lT, oT, rT⟩
  · exact absurd e hd
  · refine ⟨its, ⟨fun s us ws X l1 l2 => BindsTo.of_looks fun M => ?_, fun r1 r2 => hrel r1 rT r2⟩⟩
    obtain ⟨k, e1, e2⟩ := h T kV doc pm an cdv ct us its ws l1 rT.length.symm l2
    rw [e1]
    exact looks_items X lT oT (.of_pure e2)
/-- .. or not at all -/
theorem kbn_all {st : Stmt} (F : Fun K x qual st f fd) (n : Nat) (ks : List Str) (g : {α : Type} → List α → List α → List α)
    (hrel : ∀ {vs zs : List V} {us ws : List Value}, Vals vs us → Vals zs ws → Vals (g vs zs) (g us ws))
    (h : ∀ (kV doc pm : Value) (an : Option Addr) (cdv ct : Value) (us ws : List Value), us.length = n → ws.length = ks.length → bindArgs (PySem.W.fnOf x qual (defArgs st) (defBody st) (defScope st) .none kV doc pm an cdv ct) ⟨us, ks.zip ws⟩ = pure (ps.zip (g us ws))) :
    KBn K fd ps n ks (fun us ws => g us ws) (fun vs zs => g vs zs) := by
  obtain ⟨oc, od, kV, doc, pm, an, cdv, ct, osl, rfl, lk, hcd⟩ := F.ex
  exact ⟨fun s us ws X l1 l2 => .of_eq (h kV doc pm an cdv ct us ws l1 l2), fun r1 r2 => hrel r1 r2⟩
end
end BD
namespace BD
open PySem PySem.Spec PyProof.Rows L2
def FDof (n m : Nat) (g : DSt → OutS) : FD := fun ds p => if ds.length = n then (match run m g ds p with
  | .ok d p' => .ok d p'
  | _ => .no) else .no
theorem fdof_len {n m : Nat} {g : DSt → OutS} (ds : List Dat) (p : Pen) (h : FDof n m g ds p ≠ .no) : ds.length = n := by
  unfold FDof at h
  by_cases q : ds.length = n
  · exact q
  · rw [if_neg q] at h
    exact (h rfl).elim
theorem fdof_ne {n m : Nat} {g : DSt → OutS} (ds : List Dat) (p : Pen) (C : Addr) (fs : List (Str × Dat)) (p' : Pen) : FDof n m g ds p ≠ .ex C fs p' := by
  unfold FDof
  intro h
  split at h
  · split at h <;> cases h
  · cases h
theorem fdof_le {n m : Nat} {g : DSt → OutS} : Le (FDof n m g) (run m g) := fun ds p => by
  unfold FDof
  by_cases q : ds.length = n
  · rw [if_pos q]
    cases e : run m g ds p with
    | ok d p' => exact .inr rfl
    | ex C fs p' => exact .inl rfl
    | no => exact .inl rfl
  · rw [if_neg q]
    exact .inl rfl
/-- a def of the module, under its own name -/
structure DefOk (P : Program) (w : World) (K : PySem.W.Frag) (mg : Str → Option Value) (base : Heap) (x : Str) (k : Nat) (ps : List Str) (G : FD) : Prop where
  ex : ∃ f fd, FnD P w K mg base CX0 k f fd ps G ∧ mg x = some (.ref f) ∧ PySem.W.keepIn K (.ref f) = true ∧ Binds K fd ps []
  ne : ∀ ds p C fs p', G ds p ≠ .ex C fs p'
section
variable {P : Program} {w : World} {K : PySem.W.Frag} {mg : Str → Option Value} {base : Heap}
theorem fnD_of {x qual : Str} {st : Stmt} {f : Addr} {fd : FuncData} {N ps : List Str} {k : Nat} {g : DSt → OutS} (F : Fun K x qual st f fd) (S : FnScope N ps (defScope st))
    (hbody : ∀ (cdv : Value) (A : Around) (outer : List Env) (s : Shared) (H : Hp) (E : XK), Room k (A.deeper (envOfC qual (defScope st) s.heap.objs.size f cdv)) → DSs (cxOf CX0 P w K mg base N qual (defScope st) f cdv A outer s H E).nox W0 (defBody st) g) :
    FnD P w K mg base CX0 (k + 1) f fd ps (FDof ps.length (N.length - ps.length) g) := fnD F S (fun ds p h => fdof_len ds p h) (fun _ _ _ _ _ => fdof_ne _ _ _ _ _) fun cdv A outer s H E hr => ⟨g, hbody cdv A outer s H E hr, fdof_le⟩
theorem defOk {x : Str} {f : Addr} {fd : FuncData} {ps : List Str} {k : Nat} {G : FD} (h : FnD P w K mg base CX0 k f fd ps G) (ne : ∀ ds p C fs p', G ds p ≠ .ex C fs p') (hm : mg x = some (.ref f)) (hk : PySem.W.keepIn K (.ref f) = true) (hb : Binds K fd ps []) : DefOk P w K mg base x k ps G := ⟨⟨f, fd, h, hm, hk, hb⟩, ne⟩
end
section
variable {X : Cx} {W : WX}
theorem de_callD {k : Nat} {ps : List Str} {G : FD} {x : Str} {p pos : Pos} {e : Expr} {es : List Expr} {ga : DSt → Out (List Dat)} (D : DefOk X.prog X.w X.K X.mg X.base x k ps G) (hr : Room k X.A) (hg : Gl X x)
    (ha : DA X W (e :: es) ga) (hdb : (x == ("__debug__" : Str)) = false := by decide) (he : starEach (e :: es) X.env = (false, eval e X.env) :: starEach es X.env := by rfl) (hpl : (backTo pos (starEach es X.env)).any (·.1) = false := by rfl) :
    DE X W (.Call (.Name x p) (e :: es) [] pos) (gCall G ga) := by
  obtain ⟨f, fd, h1, h2, h3, h4⟩ := D.ex
  exact de_call h1 D.ne hr hg h2 h3 h4 ha hdb he hpl
end
/-- the built-ins' names are not taken -/
structure Nm (mg : Str → Option Value) : Prop where
  int : mg "int" = none
  len : mg "len" = none
  abs : mg "abs" = none
  list : mg "list" = none
  range : mg "range" = none
  enumerate : mg "enumerate" = none
  isinstance : mg "isinstance" = none
  str : mg "str" = none
  sorted : mg "sorted" = none
  set : mg "set" = none
  tuple : mg "tuple" = none
  dict : mg "dict" = none
  iter : mg "iter" = none
  bool : mg "bool" = none
  all : mg "all" = none
end BD
namespace BD
open PySem PySem.Spec PyProof.Rows L2
def bTys : List String := ["NoneType", "bool", "int", "str", "list", "tuple", "dict"]
def subTy (m n : String) : Bool := m == n || (m == "bool" && n == "int")
/-- cs: own classes, none of which is such a type -/
def kitT (n : String) (cs : List Addr) : Value → Option Bool
  | .type m => if bTys.contains m then some (subTy m n) else none
  | .ref c => if cs.contains c then some false else none
  | _ => none
theorem kitB_all (n : String) (hn : n ∈ bTys) (K : PySem.W.Frag) : ∀ m ∈ bTys, PySem.W.kitOne K (.type m) (.type n) = some (subTy m n) := by
  unfold bTys at hn ⊢
  simp only [List.mem_cons, List.not_mem_nil, or_false] at hn
  rcases hn with rfl | rfl | rfl | rfl | rfl | rfl | rfl <;> (intro m hm; simp only [List.mem_cons, List.not_mem_nil, or_false] at hm; rcases hm with rfl | rfl | rfl | rfl | rfl | rfl | rfl <;> kernel_rfl)
theorem kitT_ok {K : PySem.W.Frag} {n : String} {cs : List Addr} (hn : n ∈ bTys) (hc : ∀ c ∈ cs, InsK K c ∧ PySem.W.kitOne K (.ref c) (.type n) = some false) : KitOk K (.type n) (kitT n cs) := by
  intro t b e
  cases t with
  | type m =>
    unfold kitT at e
    dsimp only at e
    by_cases h : bTys.contains m = true
    · rw [if_pos h] at e
      obtain rfl := Option.some.inj e
      exact ⟨kitB_all n hn K m (by simpa using h), fun C z => nomatch z⟩
    · rw [if_neg h] at e
      cases e
  | ref c =>
    unfold kitT at e
    dsimp only at e
    by_cases h : cs.contains c = true
    · rw [if_pos h] at e
      obtain rfl := Option.some.inj e
      obtain ⟨h1, h2⟩ := hc c (by simpa using h)
      exact ⟨h2, fun C z => by cases z; exact h1⟩
    · rw [if_neg h] at e
      cases e
  | _ => cases e
def kitC (C : Addr) (subs others : List Addr) : Value → Option Bool
  | .type m => if bTys.contains m then some false else none
  | .ref c => if c = C ∨ subs.contains c = true then some true else if others.contains c = true then some false else none
  | _ => none
theorem kitC_ok {K : PySem.W.Frag} {C : Addr} {subs others : List Addr} (h0 : InsK K C) (hb : ∀ m ∈ bTys, PySem.W.kitOne K (.type m) (.ref C) = some false) (hs : ∀ c ∈ subs, InsK K c ∧ PySem.W.kitOne K (.ref c) (.ref C) = some true) (ho : ∀ c ∈ others, InsK K c ∧ PySem.W.kitOne K (.ref c) (.ref C) = some false) : KitOk K (.ref C) (kitC C subs others) := by
  intro t b e
  cases t with
  | type m =>
    unfold kitC at e
    dsimp only at e
    by_cases h : bTys.contains m = true
    · rw [if_pos h] at e
      obtain rfl := Option.some.inj e
      exact ⟨hb m (by simpa using h), fun C z => nomatch z⟩
    · rw [if_neg h] at e
      cases e
  | ref c =>
    unfold kitC at e
    dsimp only at e
    by_cases h : c = C ∨ subs.contains c = true
    · rw [if_pos h] at e
      obtain rfl := Option.some.inj e
      rcases h with rfl | h
      · exact ⟨by unfold PySem.W.kitOne; rw [if_pos (by simp)], fun C z => by cases z; exact h0⟩
      · obtain ⟨h1, h2⟩ := hs c (by simpa using h)
        exact ⟨h2, fun C z => by cases z; exact h1⟩
    · rw [if_neg h] at e
      by_cases h' : others.contains c = true
      · rw [if_pos h'] at e
        obtain rfl := Option.some.inj e
        obtain ⟨h1, h2⟩ := ho c (by simpa using h')
        exact ⟨h2, fun C z => by cases z; exact h1⟩
      · rw [if_neg h'] at e
        cases e
  | _ => cases e
section
variable {X : Cx} {W : WX}
theorem de_gintE {x : Str} {i : Int} {pos : Pos} (hg : Gl X x) (hm : ∃ t, X.mg x = some (.int i t)) (hd : (x == ("__debug__" : Str)) = false := by decide) : DE X W (.Name x pos) (gC (.int i)) := let ⟨_, h⟩ := hm; de_gint hg h hd
theorem de_gstrE {x y : Str} {pos : Pos} (hg : Gl X x) (hm : ∃ t, X.mg x = some (.str y t)) (hd : (x == ("__debug__" : Str)) = false := by decide) : DE X W (.Name x pos) (gC (.str y)) := let ⟨_, h⟩ := hm; de_gstr hg h hd
end
end BD
namespace BD
open PySem PySem.Spec PyProof.Rows L2
theorem sw_trueD {kx vx : Expr} {gs : List Comprehension} {scope : Scope} {pos py : Pos} {y : Str} {l : Nat} {env : Env} (hk : env.scope.kind = .function) (hy : env.scope.names.lookup y = some .local) (hl : (py.line == pos.line) = true)
    (ha : (scope.names.any fun (n, k) => n == y && (k == .local || k == .cell)) = false) : swapsWith (.DictComp kx vx gs scope pos) (some (.Name y py)) l env = pure true := by
  have ky : env.kindOf y = some .local := hy
  have hb : env.blockKind = .function := by
    unfold Env.blockKind
    rw [hk]
    rfl
  unfold swapsWith
  simp only [hb, ky, ha, Expr.pos, hl]
  rfl
section
variable {X : Cx} {W : WX} {kx vx tg iter : Expr} {ifs : List Expr} {scope : Scope} {own : List (Str × Nat)} {pos : Pos} {t : TG} {gi : DSt → Out (List Dat)} {h : Dat → DSt → Option DSt} {gt : DSt → Out Bool} {gk ge : DSt → Out Dat}
theorem ps_setDc {i : Nat} {y : Str} {py spos : Pos} {wi : TI} {g : TG} {tt : TT} {tk tv : TE} (hc : X.calm = true) (hN : X.N.Nodup) (hy : X.N[i]? = some y) (hyl : X.env.scope.names.lookup y = some .local)
    (hsw : swapsWith (.DictComp kx vx [⟨tg, iter, ifs, 0⟩] scope pos) (some (.Name y py)) spos.line X.env = pure true) (hi : PI X tg iter wi) (ok : BlkOk X.N X.env.scope scope own)
    (hg : ∀ (s : Shared) (H : Hp) (C : Addr) (cl : List (Str × Addr)) (fp : List Addr), PG (X.blk s H scope (compEnvC scope cl C X.env) fp) tg g) (ht : ∀ (s : Shared) (H : Hp) (C : Addr) (cl : List (Str × Addr)) (fp : List Addr), PTs (X.blk s H scope (compEnvC scope cl C X.env) fp) ifs tt)
    (hk : ∀ (s : Shared) (H : Hp) (C : Addr) (cl : List (Str × Addr)) (fp : List Addr), PE (X.blk s H scope (compEnvC scope cl C X.env) fp) kx tk)
    (he : ∀ (s : Shared) (H : Hp) (C : Addr) (cl : List (Str × Addr)) (fp : List Addr), PE (X.blk s H scope (compEnvC scope cl C X.env) fp) vx tv) (hs : ∀ x, foldedSetIterable iter X.env x = pure x := by intro _; rfl) :
    PS X (.Assign [.Name y py] (.DictComp kx vx [⟨tg, iter, ifs, 0⟩] scope pos) spos) (tAsg (tDc wi g tt tk tv (own.map (·.2))) (gName i)) := by
  refine ⟨fun pins s σ H D I h => ?_⟩
  rw [exec_Assign_Name_used _ _ _ _ hsw]
  refine wpAny_bind (wpAny_standAt (wpAny_bind ?_))
  show wpAny _ X.A (do let _ ← comprehension (.DictComp kx vx [⟨tg, iter, ifs, 0⟩] scope pos) scope X.env (firstIterPos [⟨tg, iter, ifs, 0⟩] pos) newDict false (eval iter X.env) (some (assign (.Name y py) X.env))) _ _ s
  have h : tDc wi g tt tk tv (own.map (·.2)) σ H (fun x H1 => gName i x σ H1 D.nx) := h
  refine wpAny_bind (thn (dc_core (Qf := fun _ s' => SP X pins D .next s') hc hN I hi ok hg ht hk he hs h fun L C s' m H' I' q hn f => ?_) fun _ s' hq => wpAny_pure (wpAny_pure hq))
  refine wpAny_assign_Name (pos := py) (store_ok2 (v := V.ref L) I' hN hy (.inl hyl) rfl (fun s2 I2 ⟨a, sb, ha⟩ => ?_) (.inr hyl))
  obtain ⟨f0, f1, f2, f3, f4, f5⟩ := f
  have haC : C ≠ a := ha.elim (fun z => by rw [z]; exact f1) fun z e => f4 y a z e.symm
  exact ⟨m, hn.sameBut sb haC, fun h3 sb3 => ⟨_, H', I2.turned (t' := s2.toks) (fun b o hb e => (sb3.2 b hb).trans e) f0 f1 f3 f4 f5, q⟩⟩
theorem ds_setDc {i : Nat} {y : Str} {py spos : Pos} (hc : X.calm = true) (hN : X.N.Nodup) (hy : X.N[i]? = some y) (hyl : X.env.scope.names.lookup y = some .local)
    (hsw : swapsWith (.DictComp kx vx [⟨tg, iter, ifs, 0⟩] scope pos) (some (.Name y py)) spos.line X.env = pure true) (hi : DIt X W tg iter gi) (ok : BlkOk X.N X.env.scope scope own)
    (hg : ∀ (s : Shared) (H : Hp) (C : Addr) (cl : List (Str × Addr)) (fp : List Addr), DTc (X.blk s H scope (compEnvC scope cl C X.env) fp) tg t h (own.map (·.2))) (ht : ∀ (s : Shared) (H : Hp) (C : Addr) (cl : List (Str × Addr)) (fp : List Addr), DTs (X.blk s H scope (compEnvC scope cl C X.env) fp) W0 ifs gt)
    (hk : ∀ (s : Shared) (H : Hp) (C : Addr) (cl : List (Str × Addr)) (fp : List Addr), DE (X.blk s H scope (compEnvC scope cl C X.env) fp) W0 kx gk) (he : ∀ (s : Shared) (H : Hp) (C : Addr) (cl : List (Str × Addr)) (fp : List Addr), DE (X.blk s H scope (compEnvC scope cl C X.env) fp) W0 vx ge) (hs : ∀ x, foldedSetIterable iter X.env x = pure x := by intro _; rfl) :
    DS X W (.Assign [.Name y py] (.DictComp kx vx [⟨tg, iter, ifs, 0⟩] scope pos) spos) (gSetN i (gNdc (own.map (·.2)) gi h gt gk ge)) := PS.imp (ps_setDc (tt := tG X.K RB W0 gt) (tk := tG X.K (RP X.K) W0 gk) (tv := tG X.K (RP X.K) W0 ge) hc hN hy hyl hsw hi ok (fun s H C cl fp => (hg s H C cl fp).1) ht hk he hs) fun D σ H ⟨P, ex, s, rel, f⟩ => by
  refine dc_read (W := W) (P := P) (ex := ex) (s := s) (h := h) (hg X.s_0 (fun _ => none) 0 [] []).2 rel ?_
  unfold gSetN gNdc at f
  cases q : gDcA (own.map (·.2)) gi h gt gk ge s with
  | no => rw [q] at f; exact f
  | ex C fs p => rw [q] at f; exact fun H' od x => f σ H' od x
  | ok acc sF =>
    rw [q] at f
    intro H1 s1 E H' st x
    have st2 := st.trans x.push
    have z := st2.store (dvs := []) (rs := []) (st2.rel.unpush).1 i
    rw [List.append_nil, List.append_nil] at z
    exact f _ _ z
end
end BD
namespace BD
open PySem PySem.Spec PyProof.Rows L2
def top8 (i : Nat) : Stmt := PySem.Challenge.pw_blindrepair_k08_misreadings_made.main.body.getD i (.Pass ⟨0, 0, 0, 0⟩)
def OwnTy (K : PySem.W.Frag) (cs : List Addr) : Prop := ∀ c ∈ cs, InsK K c ∧ ∀ n ∈ bTys, PySem.W.kitOne K (.ref c) (.type n) = some false
theorem units1 {n : Nat} (h : n + 64 < cLine) : n + 1 < cLine := by omega
structure Cst (mg : Str → Option Value) : Prop where
  LETTERS : ∃ t, mg "LETTERS" = some (.str "abcdefghijklmnopqrstuvwxyz" t)
  MOST_SIGNS : ∃ t, mg "MOST_SIGNS" = some (.int 2000 t)
  MOST_IMAGE : ∃ t, mg "MOST_IMAGE" = some (.int 4 t)
  MOST_LETTERS : ∃ t, mg "MOST_LETTERS" = some (.int 12 t)
  MOST_COMPOSED : ∃ t, mg "MOST_COMPOSED" = some (.int 64 t)
  MOST_TIMES : ∃ t, mg "MOST_TIMES" = some (.int 99 t)
section
variable {P : Program} {w : World} {K : PySem.W.Frag} {mg : Str → Option Value} {base : Heap} {cs : List Addr}
abbrev s_is_letter : Stmt := top8 5
abbrev N_is_letter : List Str := ["value"]
abbrev PS_is_letter : List Str := ["value"]
theorem sc_is_letter : FnScope N_is_letter PS_is_letter (defScope s_is_letter) := ⟨rfl, rfl, rfl, by decide +kernel, rfl, by decide +kernel, by decide +kernel⟩
def g_is_letter (cs : List Addr) : DSt → OutS := (gRet (gAndV (gUn (hIsi (kitT "str" cs)) (gH 0)) (gAndV (gOp hEq (gI (gUn hLen (gH 0))) (gI (gC (.int 1)))) (gOp (hInT false) (gH 0) (gI (gC (.str "abcdefghijklmnopqrstuvwxyz")))))))
abbrev F_is_letter (cs : List Addr) : FD := FDof 1 0 (g_is_letter cs)
theorem ok_is_letter {f : Addr} {fd : FuncData} (F : Fun K "is_letter" "is_letter" s_is_letter f fd) (T : Nm mg) (Cs : Cst mg) (hcs : OwnTy K cs)  : FnD P w K mg base CX0 1 f fd PS_is_letter (F_is_letter cs) :=
  fnD_of (k := 0) F sc_is_letter fun cdv A outer s H E hr => by
    have hu64 := hr.units
    have hu1 := units1 hr.units
    exact (dss_one (ds_ret (de_and (de_isi (kitT_ok (by decide) fun c h => ⟨(hcs c h).1, (hcs c h).2 _ (by decide)⟩) (.ty "str") T.isinstance (by rfl) (dhv 0) (pe_bltn (v := .ty "str") (by rfl) T.str (by decide +kernel) rfl)) (de_and (de_cmp (op_eqW hu64) d2_eq (dh_i (de_b1 (id := "") call_lenW d1_len (by rfl) T.len PySem.boot_len (dhv 0))) (dh_i de_int) (nomark _)) (de_one (de_inT (dhv 0) (dh_i (de_gstrE (by rfl) Cs.LETTERS))))))))
abbrev s_is_text : Stmt := top8 6
abbrev N_is_text : List Str := ["value", "letter"]
abbrev PS_is_text : List Str := ["value"]
theorem sc_is_text : FnScope N_is_text PS_is_text (defScope s_is_text) := ⟨rfl, rfl, rfl, by decide +kernel, rfl, by decide +kernel, by decide +kernel⟩
def g_is_text (cs : List Addr) : DSt → OutS := (gSeq (gIfS (gOr (gNot (gB (gUn (hIsi (kitT "str" cs)) (gH 0)))) (gB (gOp (hII fun i j => .bl (decide (j < i))) (gI (gUn hLen (gH 0))) (gI (gC (.int 2000))))))
 (gRet (gC (.bl false)))
 gPass)
 (gSeq (gFor (gIs (gVar 0)) (hName 1)
 (gIfS (gB (gOp (hInT true) (gH 1) (gI (gC (.str "abcdefghijklmnopqrstuvwxyz")))))
 (gRet (gC (.bl false)))
 gPass))
 (gRet (gC (.bl true)))))
abbrev F_is_text (cs : List Addr) : FD := FDof 1 1 (g_is_text cs)
theorem ok_is_text {f : Addr} {fd : FuncData} (F : Fun K "is_text" "is_text" s_is_text f fd) (T : Nm mg) (Cs : Cst mg) (hcs : OwnTy K cs)  : FnD P w K mg base CX0 1 f fd PS_is_text (F_is_text cs) :=
  fnD_of (k := 0) F sc_is_text fun cdv A outer s H E hr => by
    have hu64 := hr.units
    have hu1 := units1 hr.units
    exact (dss_cons (ds_if (PW.pt (dw_or (dt_not (dt_val (de_isi (kitT_ok (by decide) fun c h => ⟨(hcs c h).1, (hcs c h).2 _ (by decide)⟩) (.ty "str") T.isinstance (by rfl) (dhv 0) (pe_bltn (v := .ty "str") (by rfl) T.str (by decide +kernel) rfl)))) (dw_or1 (dt_cmp op_gt d2_gt (dh_i (de_b1 (id := "") call_lenW d1_len (by rfl) T.len PySem.boot_len (dhv 0))) (dh_i (de_gintE (by rfl) Cs.MOST_SIGNS)) (nomark _)))))
 (dss_one (ds_ret de_bl))
 dss_nil)
 (dss_cons (ds_for PassesOwn.never rfl (di_str (dv 0)) (dtg_name (i := 1) sc_is_text.nd rfl (.inl rfl))
 (dss_one (ds_if (dt_notinT (dhv 1) (dh_i (de_gstrE (by rfl) Cs.LETTERS)))
 (dss_one (ds_ret de_bl))
 dss_nil)))
 (dss_one (ds_ret de_bl))))
abbrev s_is_image : Stmt := top8 23
abbrev N_is_image : List Str := ["value"]
abbrev PS_is_image : List Str := ["value"]
theorem sc_is_image : FnScope N_is_image PS_is_image (defScope s_is_image) := ⟨rfl, rfl, rfl, by decide +kernel, rfl, by decide +kernel, by decide +kernel⟩
def g_is_image (cs : List Addr) : DSt → OutS := (gRet (gAndV (gCall (F_is_text cs) (gCons (gVar 0) gNil)) (gChain (hII fun i j => .bl (decide (i ≤ j))) (hII fun i j => .bl (decide (i ≤ j))) (gI (gC (.int 1))) (gI (gUn hLen (gH 0))) (gI (gC (.int 4))))))
abbrev F_is_image (cs : List Addr) : FD := FDof 1 0 (g_is_image cs)
theorem ok_is_image {f : Addr} {fd : FuncData} (F : Fun K "is_image" "is_image" s_is_image f fd) (T : Nm mg) (Cs : Cst mg) (hcs : OwnTy K cs) (D_is_text : DefOk P w K mg base "is_text" 1 PS_is_text (F_is_text cs)) : FnD P w K mg base CX0 2 f fd PS_is_image (F_is_image cs) :=
  fnD_of (k := 1) F sc_is_image fun cdv A outer s H E hr => by
    have hu64 := hr.units
    have hu1 := units1 hr.units
    exact (dss_one (ds_ret (de_and (de_callD D_is_text (hr.mono (by decide)) (by rfl) (da_cons (dv 0) da_nil)) (de_one (de_chain op_le op_le d2_le d2_le (dh_i de_int) (dh_i (de_b1 (id := "") call_lenW d1_len (by rfl) T.len PySem.boot_len (dhv 0))) (dh_i (de_gintE (by rfl) Cs.MOST_IMAGE)))))))
abbrev s_need_images : Stmt := top8 24
abbrev N_need_images : List Str := ["images", "key", "letter"]
abbrev PS_need_images : List Str := ["images"]
theorem sc_need_images : FnScope N_need_images PS_need_images (defScope s_need_images) := ⟨rfl, rfl, rfl, by decide +kernel, rfl, by decide +kernel, by decide +kernel⟩
def g_need_images (cs : List Addr) : DSt → OutS := (gSeq (gIfS (gNot (gB (gUn (hIsi (kitT "dict" cs)) (gH 0))))
 gNever
 gPass)
 (gSeq (gFor (gIk (gVar 0)) (hName 1)
 (gIfS (gNot (gB (gCall (F_is_letter cs) (gCons (gVar 1) gNil))))
 gNever
 gPass))
 (gFor (gIl (gUn hSorted (gI (gLc [1] (gIk (gVar 0)) (hName 1) gYes (gUn hStr (gH 1)))))) (hName 2)
 (gIfS (gNot (gB (gCall (F_is_image cs) (gCons (gOp hDGet (gH 0) (gH 2)) gNil))))
 gNever
 gPass))))
abbrev F_need_images (cs : List Addr) : FD := FDof 1 2 (g_need_images cs)
theorem ok_need_images {f : Addr} {fd : FuncData} (F : Fun K "need_images" "need_images" s_need_images f fd) (T : Nm mg) (Cs : Cst mg) (hcs : OwnTy K cs) (D_is_letter : DefOk P w K mg base "is_letter" 1 PS_is_letter (F_is_letter cs)) (D_is_image : DefOk P w K mg base "is_image" 2 PS_is_image (F_is_image cs)) : FnD P w K mg base CX0 3 f fd PS_need_images (F_need_images cs) :=
  fnD_of (k := 2) F sc_need_images fun cdv A outer s H E hr => by
    have hu64 := hr.units
    have hu1 := units1 hr.units
    exact (dss_cons (ds_if (dt_not (dt_val (de_isi (kitT_ok (by decide) fun c h => ⟨(hcs c h).1, (hcs c h).2 _ (by decide)⟩) (.ty "dict") T.isinstance (by rfl) (dhv 0) (pe_bltn (v := .ty "dict") (by rfl) T.dict (by decide +kernel) rfl))))
 (dss_one ds_never)
 dss_nil)
 (dss_cons (ds_for PassesOwn.never rfl (di_keys (dv 0)) (dtg_name (i := 1) sc_need_images.nd rfl (.inl rfl))
 (dss_one (ds_if (dt_not (dt_val (de_callD D_is_letter (hr.mono (by decide)) (by rfl) (da_cons (dv 1) da_nil))))
 (dss_one ds_never)
 dss_nil)))
 (dss_one (ds_for PassesOwn.never rfl (di_list (de_b1 (id := "") cr_sortedS d1_sorted (by rfl) T.sorted (by decide +kernel) (dh_i (de_lc (own := [("key", 1)]) rfl sc_need_images.nd (di_keys (dv 0)) (blkOk_by (own := [("key", 1)]) (N := N_need_images) (sc := (defScope s_need_images)) (by decide +kernel)) (fun _ _ _ _ _ => dtc_name (i := 1) sc_need_images.nd rfl (Or.inl rfl)) (fun _ _ _ _ _ => dts_nil) (fun _ _ _ _ _ => (de_t1 SkE.call_str_str d1_str (by rfl) T.str (by decide +kernel) (dhv 1))))))) (dtg_name (i := 2) sc_need_images.nd rfl (.inl rfl))
 (dss_one (ds_if (dt_not (dt_val (de_callD D_is_image (hr.mono (by decide)) (by rfl) (da_cons (de_dget hu1 (dhv 0) (dhv 2) (fun _ _ => rfl)) da_nil))))
 (dss_one ds_never)
 dss_nil))))))
abbrev s_kept_images : Stmt := top8 25
abbrev N_kept_images : List Str := ["images", "keeps", "stays", "letter"]
abbrev PS_kept_images : List Str := ["images", "keeps"]
theorem sc_kept_images : FnScope N_kept_images PS_kept_images (defScope s_kept_images) := ⟨rfl, rfl, rfl, by decide +kernel, rfl, by decide +kernel, by decide +kernel⟩
def g_kept_images (cs : List Addr) : DSt → OutS := (gSeq (gSetN 2 (gNdc [3] (gIs (gVar 1)) (hName 3) gYes (gVar 3) (gVar 3)))
 (gRet (gPl (gNmrg (gH 2) (gH 0)))))
abbrev F_kept_images (cs : List Addr) : FD := FDof 2 2 (g_kept_images cs)
theorem ok_kept_images {f : Addr} {fd : FuncData} (F : Fun K "kept_images" "kept_images" s_kept_images f fd) (T : Nm mg) (Cs : Cst mg) (hcs : OwnTy K cs)  : FnD P w K mg base CX0 1 f fd PS_kept_images (F_kept_images cs) :=
  fnD_of (k := 0) F sc_kept_images fun cdv A outer s H E hr => by
    have hu64 := hr.units
    have hu1 := units1 hr.units
    exact (dss_cons (ds_setDc (own := [("letter", 3)]) (i := 2) rfl sc_kept_images.nd rfl rfl (sw_trueD rfl rfl rfl (by decide +kernel)) (di_str (dv 1)) (blkOk_by (own := [("letter", 3)]) (N := N_kept_images) (sc := (defScope s_kept_images)) (by decide +kernel)) (fun _ _ _ _ _ => dtc_name (i := 3) sc_kept_images.nd rfl (Or.inl rfl)) (fun _ _ _ _ _ => dts_nil) (fun _ _ _ _ _ => (dv 3)) (fun _ _ _ _ _ => (dv 3)))
 (dss_one (ds_ret (de_pl (dn_mrg (dhv 2) (dhv 0))))))
abbrev s_need_few : Stmt := top8 26
abbrev N_need_few : List Str := ["images"]
abbrev PS_need_few : List Str := ["images"]
theorem sc_need_few : FnScope N_need_few PS_need_few (defScope s_need_few) := ⟨rfl, rfl, rfl, by decide +kernel, rfl, by decide +kernel, by decide +kernel⟩
def g_need_few (cs : List Addr) : DSt → OutS := (gIfS (gB (gOp (hII fun i j => .bl (decide (j < i))) (gI (gUn hLen (gH 0))) (gI (gC (.int 12)))))
 gNever
 gPass)
abbrev F_need_few (cs : List Addr) : FD := FDof 1 0 (g_need_few cs)
theorem ok_need_few {f : Addr} {fd : FuncData} (F : Fun K "need_few" "need_few" s_need_few f fd) (T : Nm mg) (Cs : Cst mg) (hcs : OwnTy K cs)  : FnD P w K mg base CX0 1 f fd PS_need_few (F_need_few cs) :=
  fnD_of (k := 0) F sc_need_few fun cdv A outer s H E hr => by
    have hu64 := hr.units
    have hu1 := units1 hr.units
    exact (dss_one (ds_if (dt_cmp op_gt d2_gt (dh_i (de_b1 (id := "") call_lenW d1_len (by rfl) T.len PySem.boot_len (dhv 0))) (dh_i (de_gintE (by rfl) Cs.MOST_LETTERS)) (nomark _))
 (dss_one ds_never)
 dss_nil))
abbrev s_in_order : Stmt := top8 27
abbrev N_in_order : List Str := ["images", "letter", "key"]
abbrev PS_in_order : List Str := ["images"]
theorem sc_in_order : FnScope N_in_order PS_in_order (defScope s_in_order) := ⟨rfl, rfl, rfl, by decide +kernel, rfl, by decide +kernel, by decide +kernel⟩
def g_in_order (cs : List Addr) : DSt → OutS := (gRet (gPl (gNdc [1] (gIl (gUn hSorted (gI (gLc [2] (gIk (gVar 0)) (hName 2) gYes (gUn hStr (gH 2)))))) (hName 1) gYes (gVar 1) (gOp hDGet (gH 0) (gH 1)))))
abbrev F_in_order (cs : List Addr) : FD := FDof 1 2 (g_in_order cs)
theorem ok_in_order {f : Addr} {fd : FuncData} (F : Fun K "in_order" "in_order" s_in_order f fd) (T : Nm mg) (Cs : Cst mg) (hcs : OwnTy K cs)  : FnD P w K mg base CX0 1 f fd PS_in_order (F_in_order cs) :=
  fnD_of (k := 0) F sc_in_order fun cdv A outer s H E hr => by
    have hu64 := hr.units
    have hu1 := units1 hr.units
    exact (dss_one (ds_ret (de_pl (dn_dc (own := [("letter", 1)]) rfl sc_in_order.nd (di_list (de_b1 (id := "") cr_sortedS d1_sorted (by rfl) T.sorted (by decide +kernel) (dh_i (de_lc (own := [("key", 2)]) rfl sc_in_order.nd (di_keys (dv 0)) (blkOk_by (own := [("key", 2)]) (N := N_in_order) (sc := (defScope s_in_order)) (by decide +kernel)) (fun _ _ _ _ _ => dtc_name (i := 2) sc_in_order.nd rfl (Or.inl rfl)) (fun _ _ _ _ _ => dts_nil) (fun _ _ _ _ _ => (de_t1 SkE.call_str_str d1_str (by rfl) T.str (by decide +kernel) (dhv 2))))))) (blkOk_by (own := [("letter", 1)]) (N := N_in_order) (sc := (defScope s_in_order)) (by decide +kernel)) (fun _ _ _ _ _ => dtc_name (i := 1) sc_in_order.nd rfl (Or.inl rfl)) (fun _ _ _ _ _ => dts_nil) (fun _ _ _ _ _ => (dv 1)) (fun _ _ _ _ _ => (de_dget hu1 (dhv 0) (dhv 1) (fun _ _ => rfl)))))))
abbrev s_letters_in : Stmt := top8 28
abbrev N_letters_in : List Str := ["images", "letter"]
abbrev PS_letters_in : List Str := ["images"]
theorem sc_letters_in : FnScope N_letters_in PS_letters_in (defScope s_letters_in) := ⟨rfl, rfl, rfl, by decide +kernel, rfl, by decide +kernel, by decide +kernel⟩
def g_letters_in (cs : List Addr) : DSt → OutS := (gRet (gUn hTuple (gI (gSoSe (fun s => ((gC (.str "")) s).bind fun a s1 => match a with | .str z => gUn (hJoin (.str z)) (gI (gLc [1] (gIk (gVar 0)) (hName 1) gYes (gOp hDGet (gH 0) (gH 1)))) s1 | _ => .no)))))
abbrev F_letters_in (cs : List Addr) : FD := FDof 1 1 (g_letters_in cs)
theorem ok_letters_in {f : Addr} {fd : FuncData} (F : Fun K "letters_in" "letters_in" s_letters_in f fd) (T : Nm mg) (Cs : Cst mg) (hcs : OwnTy K cs)  : FnD P w K mg base CX0 1 f fd PS_letters_in (F_letters_in cs) :=
  fnD_of (k := 0) F sc_letters_in fun cdv A outer s H E hr => by
    have hu64 := hr.units
    have hu1 := units1 hr.units
    exact (dss_one (ds_ret (de_t1 call_tuple_of d1_tuple (by rfl) T.tuple (by decide +kernel) (dh_i (de_soSe rfl (de_join de_str (dh_i (de_lc (own := [("letter", 1)]) rfl sc_letters_in.nd (di_keys (dv 0)) (blkOk_by (own := [("letter", 1)]) (N := N_letters_in) (sc := (defScope s_letters_in)) (by decide +kernel)) (fun _ _ _ _ _ => dtc_name (i := 1) sc_letters_in.nd rfl (Or.inl rfl)) (fun _ _ _ _ _ => dts_nil) (fun _ _ _ _ _ => (de_dget hu1 (dhv 0) (dhv 1) (fun _ _ => rfl)))))) (by rfl) T.set (by rfl) T.sorted)))))
end
end BD
namespace BD
open PySem PySem.Spec PyProof.Rows L2
def eqK (us : List (Key × Dat)) : List (Key × Dat) → Option Bool
  | [] => some true
  | p :: r => match valD us p.1 with
    | none => some false
    | some d => match p.2, d, eqK us r with
      | .str x, .str y, some b => some (x == y && b)
      | _, _, _ => none
def eqKs (ks us : List (Key × Dat)) : Option Bool := if ks.length = us.length then eqK us ks else some false
def eqD2 (a b : Dat) : Option Bool := match dicOf a, dicOf b with
  | some ks, some us => eqKs ks us
  | _, _ => none
def hEq2 : Dat → Dat → DSt → Out Dat := fun a b s => match eqD2 a b with
  | some r => .ok (.bl r) s
  | none => .no
section
variable {K : PySem.W.Frag} {P : Addr} {O : List Addr} {H : Hp} {A : Around} {s : Shared}
theorem eqK_hits {kbV : List (Key × V)} {kb : List (Key × Value)} {us : List (Key × Dat)} (rb : KV kbV kb) (hb : kbV.map (·.1) = us.map (·.1)) (pb : Rps K P O H (kbV.map (·.2)) (us.map (·.2))) :
    ∀ {kaV : List (Key × V)} {ka : List (Key × Value)} {ks : List (Key × Dat)} {r : Bool}, KV kaV ka → kaV.map (·.1) = ks.map (·.1) → Rps K P O H (kaV.map (·.2)) (ks.map (·.2)) → eqK us ks = some r → PySem.W.KeqHits A s kb ka r := by
  intro kaV ka ks r ra
  unfold KV at ra
  induction ra generalizing ks r with
  | nil =>
    intro he hp e
    cases ks with
    | nil => cases e; exact .nil
    | cons _ _ => cases he
  | @cons p q ps qs h t ih =>
    intro he hp e
    cases ks with
    | nil => cases he
    | cons c ks =>
      obtain ⟨h1, h2⟩ := h
      simp only [List.map_cons, List.cons.injEq] at he
      rw [List.map_cons, List.map_cons] at hp
      cases hp with
      | cons g1 g2 =>
        obtain ⟨q1, q2⟩ := q
        have hk : q1 = c.1 := by rw [← he.1]; exact h1.symm
        subst hk
        rw [eqK] at e
        have rv := rb.val c.1
        rcases val_rp c.1 hb pb with ⟨z1, z2⟩ | ⟨d, v, z1, z2, z3⟩
        · rw [z1] at e
          cases e
          rw [z2] at rv
          cases w : valueAt kb c.1 with
          | none => exact .miss w
          | some _ => rw [w] at rv; exact rv.elim
        · rw [z1] at e
          rw [z2] at rv
          cases w : valueAt kb c.1 with
          | none => rw [w] at rv; exact rv.elim
          | some y =>
            rw [w] at rv
            obtain ⟨c1, c2⟩ := c
            dsimp only at e g1 w
            cases c2 with
            | str x =>
              cases d with
              | str y' =>
                cases w3 : eqK us ks with
                | none => rw [w3] at e; cases e
                | some b =>
                  rw [w3] at e
                  cases e
                  generalize p.2 = pp at g1 h2
                  cases g1
                  cases z3
                  obtain ⟨t1, rfl⟩ := (show ∃ t, q2 = Value.str x t from h2)
                  obtain ⟨t2, rfl⟩ := (show ∃ t, y = Value.str y' t from rv)
                  exact .hit w (SeqAt.EqAt.str_str x t1 y' t2) (ih he.2 g2 w3)
              | _ => cases e
            | _ => cases d <;> cases e
end
def rEq2 (K : PySem.W.Frag) : R2 := fun x y H Q => ∃ P O a b r, Vw K P O H x a ∧ Vw K P O H y b ∧ eqD2 a b = some r ∧ Q (.bl r) H
section
variable {X : Cx} {W : WX}
theorem eq2_use {pins : List (Addr × Obj)} {σ : St} {H : Hp} {s : Shared} {P : Addr} {O : List Addr} {x y : V} {a b : Dat} {v u : Value} {r : Bool} (I : Inv X pins σ H s) (rx : RelV x v) (ry : RelV y u) (ha : Vw X.K P O H x a) (hb : Vw X.K P O H y b) (e : eqD2 a b = some r) :
    ∃ a1 a2 ka kb r0, v = .ref a1 ∧ u = .ref a2 ∧ (a1 == sysModules) = false ∧ (a2 == sysModules) = false ∧ s.heap.DictOf (mixKind X.prog X.w) a1 ka ∧ s.heap.DictOf (mixKind X.prog X.w) a2 kb ∧
      (ka.length = kb.length → PySem.W.KeqHits X.A.in1 s kb ka r0) ∧ (ka.length == kb.length && r0) = r := by
  unfold eqD2 at e
  cases e1 : dicOf a with
  | none => rw [e1] at e; cases e
  | some ks =>
    cases e2 : dicOf b with
    | none => rw [e1, e2] at e; cases e
    | some us =>
      rw [e1, e2] at e
      dsimp only at e
      obtain ⟨a1, k1, rfl, h1, m1, p1⟩ := vw_dic ha e1
      obtain ⟨a2, k2, rfl, h2, m2, p2⟩ := vw_dic hb e2
      cases rx
      cases ry
      obtain ⟨_, n1, v1, r1, d1⟩ := dk_rd I.hok h1
      obtain ⟨_, n2, v2, r2, d2⟩ := dk_rd I.hok h2
      have l1 : v1.length = ks.length := by rw [← r1.length, ← List.length_map (f := (·.1)), m1, List.length_map]
      have l2 : v2.length = us.length := by rw [← r2.length, ← List.length_map (f := (·.1)), m2, List.length_map]
      unfold eqKs at e
      by_cases hl : ks.length = us.length
      · rw [if_pos hl] at e
        exact ⟨a1, a2, v1, v2, r, rfl, rfl, n1, n2, d1, d2, fun _ => eqK_hits r2 m2 p2 r1 m1 p1 e, by rw [l1, l2, hl, beq_self_eq_true, Bool.true_and]⟩
      · rw [if_neg hl] at e
        cases e
        exact ⟨a1, a2, v1, v2, false, rfl, rfl, n1, n2, d1, d2, fun z => absurd (by rw [← l1, ← l2]; exact z) hl, by rw [Bool.and_false]⟩
theorem op_eq2 (hu : X.A.units < cLine) : OpR X (compareOp .Eq) (rEq2 X.K) := by
  intro pins s σ H x y v u Q I rx ry h
  obtain ⟨P, O, a, b, r, ha, hb, e, q⟩ := h
  obtain ⟨a1, a2, ka, kb, r0, rfl, rfl, n1, n2, d1, d2, hh, rfl⟩ := eq2_use I rx ry ha hb e
  exact PySem.W.keq_eq n1 n2 d1 d2 hu hh ⟨.bl _, H, I, rfl, q⟩
theorem d2_eq2 : D2 X W (rEq2 X.K) hEq2 := fun P ex s σ H x y dx dy Q rel hx hy f => by
  unfold hEq2 at f
  cases e : eqD2 dx dy with
  | none => rw [e] at f; exact f.elim
  | some r =>
    rw [e] at f
    exact ⟨P, _, dx, dy, r, hx, hy, e, fin_ok f rel (Rp.bl r)⟩
end
end BD
namespace BD
open PySem PySem.Spec PyProof.Rows L2
structure MisC (K : PySem.W.Frag) (C : Addr) : Prop where
  images : Cls K C ∧ NoAttr K C "images"
  letters : Cls K C ∧ NoAttr K C "letters"
  reached : Cls K C ∧ NoAttr K C "reached"
  changed : Cls K C ∧ NoAttr K C "changed"
section
variable {P : Program} {w : World} {K : PySem.W.Frag} {mg : Str → Option Value} {base : Heap} {cs subs others : List Addr} {CM : Addr} {ok : Addr → Bool}
abbrev s_m_init : Stmt := inClass (top8 33) 0
abbrev N_m_init : List Str := ["self", "images", "keeps", "found", "letter"]
abbrev PS_m_init : List Str := ["self", "images", "keeps"]
theorem sc_m_init : FnScope N_m_init PS_m_init (defScope s_m_init) := ⟨rfl, rfl, rfl, by decide +kernel, rfl, by decide +kernel, by decide +kernel⟩
def g_m_init (cs subs others : List Addr) (CM : Addr) (ok : Addr → Bool) : DSt → OutS := (gSeq (gDrop (gCall (F_need_images cs) (gCons (gVar 1) gNil)))
 (gSeq (gIfS (gNot (gB (gCall (F_is_text cs) (gCons (gVar 2) gNil))))
 gNever
 gPass)
 (gSeq (gSet 3 (gCall (F_kept_images cs) (gCons (gVar 1) (gCons (gVar 2) gNil))))
 (gSeq (gDrop (gCall (F_need_few cs) (gCons (gVar 3) gNil)))
 (gSeq (gFldS 0 "images" ok (gCall (F_in_order cs) (gCons (gVar 3) gNil)))
 (gSeq (gFldS 0 "letters" ok (gUn hTuple (gI (gLc [4] (gIk (gUn (hFld "images" ok) (gH 0))) (hName 4) gYes (gVar 4)))))
 (gSeq (gFldS 0 "reached" ok (gCall (F_letters_in cs) (gCons (gUn (hFld "images" ok) (gH 0)) gNil)))
 (gFldS 0 "changed" ok (gUn hTuple (gI (gLc [4] (gIk (gUn (hFld "images" ok) (gH 0))) (hName 4) (gB (gOp hNe (gI (gOp hDGet (gI (gUn (hFld "images" ok) (gH 0))) (gH 4))) (gH 4))) (gVar 4))))))))))))
theorem der_m_init {f : Addr} {cdv : Value} {A : Around} {outer : List Env} {s : Shared} {H : Hp} {E : XK} (T : Nm mg) (Cs : Cst mg) (hcs : OwnTy K cs) (hM : ∀ C, ok C = true → MisC K C) (mM : mg "Misreading" = some (.ref CM)) (hK : KitOk K (.ref CM) (kitC CM subs others)) (D_need_images : DefOk P w K mg base "need_images" 3 PS_need_images (F_need_images cs)) (D_kept_images : DefOk P w K mg base "kept_images" 1 PS_kept_images (F_kept_images cs)) (D_need_few : DefOk P w K mg base "need_few" 1 PS_need_few (F_need_few cs)) (D_in_order : DefOk P w K mg base "in_order" 1 PS_in_order (F_in_order cs)) (D_letters_in : DefOk P w K mg base "letters_in" 1 PS_letters_in (F_letters_in cs)) (D_is_text : DefOk P w K mg base "is_text" 1 PS_is_text (F_is_text cs))
    (hr : Room 3 (A.deeper (envOfC "Misreading.__init__" (defScope s_m_init) s.heap.objs.size f cdv))) : DSs (cxOf CX0 P w K mg base N_m_init "Misreading.__init__" (defScope s_m_init) f cdv A outer s H E).nox W0 (defBody s_m_init) (g_m_init cs subs others CM ok) := by
    have hu64 := hr.units
    have hu1 := units1 hr.units
    exact (dss_cons (ds_expr (de_callD D_need_images (hr.mono (by decide)) (by rfl) (da_cons (dv 1) da_nil)))
 (dss_cons (ds_if (dt_not (dt_val (de_callD D_is_text (hr.mono (by decide)) (by rfl) (da_cons (dv 2) da_nil))))
 (dss_one ds_never)
 dss_nil)
 (dss_cons (ds_set (i := 3) sc_m_init.nd rfl (by first | exact .inl rfl | exact .inr rfl) (de_callD D_kept_images (hr.mono (by decide)) (by rfl) (da_cons (dv 1) (da_cons (dv 2) da_nil))))
 (dss_cons (ds_expr (de_callD D_need_few (hr.mono (by decide)) (by rfl) (da_cons (dv 3) da_nil)))
 (dss_cons (ds_fld (i := 0) (ok := ok) (fun C h => (hM C h).images) (pv _) (de_callD D_in_order (hr.mono (by decide)) (by rfl) (da_cons (dv 3) da_nil)))
 (dss_cons (ds_fld (i := 0) (ok := ok) (fun C h => (hM C h).letters) (pv _) (de_t1 call_tuple_of d1_tuple (by rfl) T.tuple (by decide +kernel) (dh_i (de_lc (own := [("letter", 4)]) rfl sc_m_init.nd (di_keys (de_fld (ok := ok) (fun C h => (hM C h).images) (dhv 0))) (blkOk_by (own := [("letter", 4)]) (N := N_m_init) (sc := (defScope s_m_init)) (by decide +kernel)) (fun _ _ _ _ _ => dtc_name (i := 4) sc_m_init.nd rfl (Or.inl rfl)) (fun _ _ _ _ _ => dts_nil) (fun _ _ _ _ _ => (dv 4))))))
 (dss_cons (ds_fld (i := 0) (ok := ok) (fun C h => (hM C h).reached) (pv _) (de_callD D_letters_in (hr.mono (by decide)) (by rfl) (da_cons (de_fld (ok := ok) (fun C h => (hM C h).images) (dhv 0)) da_nil)))
 (dss_one (ds_fld (i := 0) (ok := ok) (fun C h => (hM C h).changed) (pv _) (de_t1 call_tuple_of d1_tuple (by rfl) T.tuple (by decide +kernel) (dh_i (de_lc (own := [("letter", 4)]) rfl sc_m_init.nd (di_keys (de_fld (ok := ok) (fun C h => (hM C h).images) (dhv 0))) (blkOk_by (own := [("letter", 4)]) (N := N_m_init) (sc := (defScope s_m_init)) (by decide +kernel)) (fun _ _ _ _ _ => dtc_name (i := 4) sc_m_init.nd rfl (Or.inl rfl)) (fun _ _ _ _ _ => dts_one (dt_cmp (op_neW hu64) d2_ne (dh_i (de_dget hu1 (dh_i (de_fld (ok := ok) (fun C h => (hM C h).images) (dhv 0))) (dhv 4) (fun _ _ => rfl))) (dhv 4) (nomark _))) (fun _ _ _ _ _ => (dv 4))))))))))))))
abbrev s_m_get : Stmt := inClass (top8 33) 8
abbrev N_m_get : List Str := ["self", "letter"]
abbrev PS_m_get : List Str := ["self", "letter"]
theorem sc_m_get : FnScope N_m_get PS_m_get (defScope s_m_get) := ⟨rfl, rfl, rfl, by decide +kernel, rfl, by decide +kernel, by decide +kernel⟩
def g_m_get (cs subs others : List Addr) (CM : Addr) (ok : Addr → Bool) : DSt → OutS := (gSeq (gIfS (gNot (gB (gCall (F_is_letter cs) (gCons (gVar 1) gNil))))
 gNever
 gPass)
 (gSeq (gIfS (gB (gOp hDNotIn (gH 1) (gI (gUn (hFld "images" ok) (gH 0)))))
 gNever
 gPass)
 (gRet (gOp hDGet (gI (gUn (hFld "images" ok) (gH 0))) (gH 1)))))
theorem der_m_get {f : Addr} {cdv : Value} {A : Around} {outer : List Env} {s : Shared} {H : Hp} {E : XK} (T : Nm mg) (Cs : Cst mg) (hcs : OwnTy K cs) (hM : ∀ C, ok C = true → MisC K C) (mM : mg "Misreading" = some (.ref CM)) (hK : KitOk K (.ref CM) (kitC CM subs others)) (D_is_letter : DefOk P w K mg base "is_letter" 1 PS_is_letter (F_is_letter cs))
    (hr : Room 1 (A.deeper (envOfC "Misreading.__getitem__" (defScope s_m_get) s.heap.objs.size f cdv))) : DSs (cxOf CX0 P w K mg base N_m_get "Misreading.__getitem__" (defScope s_m_get) f cdv A outer s H E).nox W0 (defBody s_m_get) (g_m_get cs subs others CM ok) := by
    have hu64 := hr.units
    have hu1 := units1 hr.units
    exact (dss_cons (ds_if (dt_not (dt_val (de_callD D_is_letter (hr.mono (by decide)) (by rfl) (da_cons (dv 1) da_nil))))
 (dss_one ds_never)
 dss_nil)
 (dss_cons (ds_if (dt_dnotin hu1 (dhv 1) (dh_i (de_fld (ok := ok) (fun C h => (hM C h).images) (dhv 0))))
 (dss_one ds_never)
 dss_nil)
 (dss_one (ds_ret (de_dget hu1 (dh_i (de_fld (ok := ok) (fun C h => (hM C h).images) (dhv 0))) (dhv 1) (fun _ _ => rfl))))))
abbrev s_m_has : Stmt := inClass (top8 33) 9
abbrev N_m_has : List Str := ["self", "value"]
abbrev PS_m_has : List Str := ["self", "value"]
theorem sc_m_has : FnScope N_m_has PS_m_has (defScope s_m_has) := ⟨rfl, rfl, rfl, by decide +kernel, rfl, by decide +kernel, by decide +kernel⟩
def g_m_has (cs subs others : List Addr) (CM : Addr) (ok : Addr → Bool) : DSt → OutS := (gRet (gAndV (gUn (hIsi (kitT "str" cs)) (gH 1)) (gOp hDIn (gH 1) (gI (gUn (hFld "images" ok) (gH 0))))))
theorem der_m_has {f : Addr} {cdv : Value} {A : Around} {outer : List Env} {s : Shared} {H : Hp} {E : XK} (T : Nm mg) (Cs : Cst mg) (hcs : OwnTy K cs) (hM : ∀ C, ok C = true → MisC K C) (mM : mg "Misreading" = some (.ref CM)) (hK : KitOk K (.ref CM) (kitC CM subs others)) 
    (hr : Room 0 (A.deeper (envOfC "Misreading.__contains__" (defScope s_m_has) s.heap.objs.size f cdv))) : DSs (cxOf CX0 P w K mg base N_m_has "Misreading.__contains__" (defScope s_m_has) f cdv A outer s H E).nox W0 (defBody s_m_has) (g_m_has cs subs others CM ok) := by
    have hu64 := hr.units
    have hu1 := units1 hr.units
    exact (dss_one (ds_ret (de_and (de_isi (kitT_ok (by decide) fun c h => ⟨(hcs c h).1, (hcs c h).2 _ (by decide)⟩) (.ty "str") T.isinstance (by rfl) (dhv 1) (pe_bltn (v := .ty "str") (by rfl) T.str (by decide +kernel) rfl)) (de_one (de_din hu1 (dhv 1) (dh_i (de_fld (ok := ok) (fun C h => (hM C h).images) (dhv 0))))))))
abbrev s_m_len : Stmt := inClass (top8 33) 11
abbrev N_m_len : List Str := ["self"]
abbrev PS_m_len : List Str := ["self"]
theorem sc_m_len : FnScope N_m_len PS_m_len (defScope s_m_len) := ⟨rfl, rfl, rfl, by decide +kernel, rfl, by decide +kernel, by decide +kernel⟩
def g_m_len (cs subs others : List Addr) (CM : Addr) (ok : Addr → Bool) : DSt → OutS := (gRet (gUn hLen (gI (gUn (hFld "letters" ok) (gH 0)))))
theorem der_m_len {f : Addr} {cdv : Value} {A : Around} {outer : List Env} {s : Shared} {H : Hp} {E : XK} (T : Nm mg) (Cs : Cst mg) (hcs : OwnTy K cs) (hM : ∀ C, ok C = true → MisC K C) (mM : mg "Misreading" = some (.ref CM)) (hK : KitOk K (.ref CM) (kitC CM subs others)) 
    (hr : Room 0 (A.deeper (envOfC "Misreading.__len__" (defScope s_m_len) s.heap.objs.size f cdv))) : DSs (cxOf CX0 P w K mg base N_m_len "Misreading.__len__" (defScope s_m_len) f cdv A outer s H E).nox W0 (defBody s_m_len) (g_m_len cs subs others CM ok) := by
    have hu64 := hr.units
    have hu1 := units1 hr.units
    exact (dss_one (ds_ret (de_b1 (id := "") call_lenW d1_len (by rfl) T.len PySem.boot_len (dh_i (de_fld (ok := ok) (fun C h => (hM C h).letters) (dhv 0))))))
abbrev s_m_eq : Stmt := inClass (top8 33) 12
abbrev N_m_eq : List Str := ["self", "other"]
abbrev PS_m_eq : List Str := ["self", "other"]
theorem sc_m_eq : FnScope N_m_eq PS_m_eq (defScope s_m_eq) := ⟨rfl, rfl, rfl, by decide +kernel, rfl, by decide +kernel, by decide +kernel⟩
def g_m_eq (cs subs others : List Addr) (CM : Addr) (ok : Addr → Bool) : DSt → OutS := (gRet (gAndV (gUn (hIsi (kitC CM subs others)) (gH 1)) (gOp hEq2 (gI (gUn (hFld "images" ok) (gH 0))) (gI (gUn (hFld "images" ok) (gH 1))))))
theorem der_m_eq {f : Addr} {cdv : Value} {A : Around} {outer : List Env} {s : Shared} {H : Hp} {E : XK} (T : Nm mg) (Cs : Cst mg) (hcs : OwnTy K cs) (hM : ∀ C, ok C = true → MisC K C) (mM : mg "Misreading" = some (.ref CM)) (hK : KitOk K (.ref CM) (kitC CM subs others)) 
    (hr : Room 0 (A.deeper (envOfC "Misreading.__eq__" (defScope s_m_eq) s.heap.objs.size f cdv))) : DSs (cxOf CX0 P w K mg base N_m_eq "Misreading.__eq__" (defScope s_m_eq) f cdv A outer s H E).nox W0 (defBody s_m_eq) (g_m_eq cs subs others CM ok) := by
    have hu64 := hr.units
    have hu1 := units1 hr.units
    exact (dss_one (ds_ret (de_and (de_isi hK (.own CM) T.isinstance (by rfl) (dhv 1) (pe_glob (v := .ref CM) (by rfl) mM rfl)) (de_one (de_cmp (op_eq2 (Nat.lt_of_le_of_lt (Nat.le_add_right _ _) hu64)) d2_eq2 (dh_i (de_fld (ok := ok) (fun C h => (hM C h).images) (dhv 0))) (dh_i (de_fld (ok := ok) (fun C h => (hM C h).images) (dhv 1))) (nomark _))))))
abbrev s_m_str : Stmt := inClass (top8 33) 13
abbrev N_m_str : List Str := ["self", "letter"]
abbrev PS_m_str : List Str := ["self"]
theorem sc_m_str : FnScope N_m_str PS_m_str (defScope s_m_str) := ⟨rfl, rfl, rfl, by decide +kernel, rfl, by decide +kernel, by decide +kernel⟩
def g_m_str (cs subs others : List Addr) (CM : Addr) (ok : Addr → Bool) : DSt → OutS := (gSeq (gIfS (gB (gOp hEq (gI (gUn hLen (gI (gUn (hFld "images" ok) (gH 0))))) (gI (gC (.int 0)))))
 (gRet (gC (.str "-")))
 gPass)
 (gRet (fun s => ((gC (.str " ")) s).bind fun a s1 => match a with | .str z => gUn (hJoin (.str z)) (gI (gLc [1] (gIk (gUn (hFld "images" ok) (gH 0))) (hName 1) gYes (gJs ((gFmt (gVar 1)) :: ((gC (.str ":")) :: ((gFmt (gOp hDGet (gI (gUn (hFld "images" ok) (gH 0))) (gH 1))) :: []))) Str.empty))) s1 | _ => .no)))
theorem der_m_str {f : Addr} {cdv : Value} {A : Around} {outer : List Env} {s : Shared} {H : Hp} {E : XK} (T : Nm mg) (Cs : Cst mg) (hcs : OwnTy K cs) (hM : ∀ C, ok C = true → MisC K C) (mM : mg "Misreading" = some (.ref CM)) (hK : KitOk K (.ref CM) (kitC CM subs others)) 
    (hr : Room 0 (A.deeper (envOfC "Misreading.__str__" (defScope s_m_str) s.heap.objs.size f cdv))) : DSs (cxOf CX0 P w K mg base N_m_str "Misreading.__str__" (defScope s_m_str) f cdv A outer s H E).nox W0 (defBody s_m_str) (g_m_str cs subs others CM ok) := by
    have hu64 := hr.units
    have hu1 := units1 hr.units
    exact (dss_cons (ds_if (dt_cmp (op_eqW hu64) d2_eq (dh_i (de_b1 (id := "") call_lenW d1_len (by rfl) T.len PySem.boot_len (dh_i (de_fld (ok := ok) (fun C h => (hM C h).images) (dhv 0))))) (dh_i de_int) (nomark _))
 (dss_one (ds_ret de_str))
 dss_nil)
 (dss_one (ds_ret (de_join de_str (dh_i (de_lc (own := [("letter", 1)]) rfl sc_m_str.nd (di_keys (de_fld (ok := ok) (fun C h => (hM C h).images) (dhv 0))) (blkOk_by (own := [("letter", 1)]) (N := N_m_str) (sc := (defScope s_m_str)) (by decide +kernel)) (fun _ _ _ _ _ => dtc_name (i := 1) sc_m_str.nd rfl (Or.inl rfl)) (fun _ _ _ _ _ => dts_nil) (fun _ _ _ _ _ => (de_joined (DJ.cons (de_fmt (dv 1)) (DJ.cons de_str (DJ.cons (de_fmt (de_dget hu1 (dh_i (de_fld (ok := ok) (fun C h => (hM C h).images) (dhv 0))) (dhv 1) (fun _ _ => rfl))) DJ.nil)))))))))))
end
end BD
namespace BD
open PySem PySem.Spec PyProof.Rows L2
structure DrawC where
  a1 : Int
  b1 : Int
  m1 : Int
  a : Int
  b : Int
  m2 : Int
  a2 : Int
  b2 : Int
  c2 : Int
  m3 : Int
def cellOf (c : DrawC) (ns : List Int) (i : Int) : Int := if ns = [] then c.a1 * i + c.b1 else ns.getD (i.fmod (ns.length : Int)).toNat 0
def absI (i : Int) : Int := if i < 0 then -i else i
def greatOf (z : Int) : Int := 2 * (absI z - 10 ^ Int.toNat 18) + (if decide (z < 0) = true then 1 else 0)
def stir1 (c : DrawC) (z i : Int) : Int := ((z.fmod c.m1 + c.a * i + c.b) ^ Int.toNat 5).fmod c.m2
def stir2 (c : DrawC) (z i : Int) : Int := ((stir1 c z i * (2 * i + c.a2) + c.b2 * i * i + c.c2) ^ Int.toNat 3).fmod c.m3
def drawN (c : DrawC) (m : Int) (p : Pen) : Int × Pen :=
  if 0 < p.g then (p.g.fmod m, { p with g := p.g.fdiv m })
  else if p.i < (p.ns.length : Int) ∧ (10 : Int) ^ Int.toNat 18 ≤ absI (cellOf c p.ns p.i) then ((greatOf (cellOf c p.ns p.i)).fmod m, { p with i := p.i + 1, g := (greatOf (cellOf c p.ns p.i)).fdiv m })
  else (((stir2 c (cellOf c p.ns p.i) p.i).fdiv 32).fmod m, { p with i := p.i + 1 })
def drawF (c : DrawC) : FD := fun ds p => match ds with
  | [.pen, .int m] => if 0 < m ∧ m ≤ 1000 ∧ p.i < 100000 then .ok (.int (drawN c m p).1) (drawN c m p).2 else .no
  | _ => .no
theorem fmodB {x m : Int} (hm : 0 < m) : 0 ≤ x.fmod m ∧ x.fmod m < m := by
  rw [Int.fmod_eq_emod_of_nonneg _ (Int.le_of_lt hm)]
  exact ⟨Int.emod_nonneg _ (by omega), Int.emod_lt_of_pos _ hm⟩
theorem fdivN {x m : Int} (hx : 0 ≤ x) (hm : 0 < m) : 0 ≤ x.fdiv m := by
  rw [Int.fdiv_eq_ediv_of_nonneg _ (Int.le_of_lt hm)]
  exact Int.ediv_nonneg hx (Int.le_of_lt hm)
/-- all that is asked of a draw -/
theorem drawN_ok {c : DrawC} {m : Int} {p : Pen} (hm : 0 < m) (hi : 0 ≤ p.i) : 0 ≤ (drawN c m p).1 ∧ (drawN c m p).1 < m ∧ p.i ≤ (drawN c m p).2.i ∧ (drawN c m p).2.i ≤ p.i + 1 := by
  unfold drawN
  split
  · exact ⟨(fmodB hm).1, (fmodB hm).2, Int.le_refl _, by show p.i ≤ p.i + 1; omega⟩
  · split
    · exact ⟨(fmodB hm).1, (fmodB hm).2, by show p.i ≤ p.i + 1; omega, Int.le_refl _⟩
    · exact ⟨(fmodB hm).1, (fmodB hm).2, by show p.i ≤ p.i + 1; omega, Int.le_refl _⟩
theorem drawF_len {c : DrawC} (ds : List Dat) (p : Pen) (h : drawF c ds p ≠ .no) : ds.length = 2 := by
  unfold drawF at h
  split at h
  · rfl
  · exact (h rfl).elim
theorem drawF_ne {c : DrawC} (ds : List Dat) (p : Pen) (C : Addr) (fs : List (Str × Dat)) (p' : Pen) : drawF c ds p ≠ .ex C fs p' := by
  unfold drawF
  split
  · split <;> exact fun h => nomatch h
  · exact fun h => nomatch h
/-- what the law's pen leaves: all but the pen is as it was -/
theorem pen_fin {K : PySem.W.Frag} {P c : Addr} {ex : List Addr} {H H' : Hp} {p : Pen} {i' g' : Int} (nd : (P :: ex).Nodup) (hex : ∀ a ∈ ex, ∃ o, H a = some o) (hP : PenOk P (P :: ex) H p) (h1 : H P = some (.lst [.ref c, .int p.i, .int p.g])) (h2 : c ∉ P :: ex) (h3 : H c = some (.lst (p.ns.map V.int)))
    (g : ∀ b o, b ≠ P → H b = some o → H' b = some o) (e : H' P = some (.lst [.ref c, .int i', .int g'])) (hi0 : 0 ≤ i') (hi1 : i' ≤ 100000) (hg : 0 ≤ g') :
    Kp (P :: ex) H H' ∧ (∀ a ∈ ex, H' a = H a) ∧ PenOk P (P :: ex) H' { p with i := i', g := g' } := by
  have fz : Fz H H' := fun a o so ea => g a o (fun z => by
    subst z
    rw [h1] at ea
    cases ea
    exact so) ea
  have cP : c ≠ P := fun z => h2 (z ▸ List.mem_cons_self ..)
  refine ⟨⟨fun a n o ea => .inl (g a o (fun z => n (z ▸ List.mem_cons_self ..)) ea), fz⟩, fun a ha => ?_, ⟨⟨c, e, h2, g c _ cP h3⟩, hi0, hi1, hg, hP.tab.still fz fun a ps ea => g a _ (fun z => by
    subst z
    rw [h1] at ea
    cases ea) ea, hP.n⟩⟩
  obtain ⟨o, ea⟩ := hex a ha
  rw [g a o (fun z => (List.nodup_cons.mp nd).1 (z ▸ ha)) ea, ea]
end BD
namespace BD
open PySem PySem.Spec PyProof.Rows L2
abbrev sPen : Stmt := top8 39
abbrev sDraw : Stmt := top8 40
theorem scPen : FnScope ["_law_script"] ["_law_script"] (defScope sPen) := ⟨rfl, rfl, rfl, by decide +kernel, rfl, by decide +kernel, by decide +kernel⟩
theorem scDraw : FnScope ["_law_pen_here", "_law_many", "_law_digit", "_law_spot", "_law_cell", "_law_great", "_law_stirred"] ["_law_pen_here", "_law_many"] (defScope sDraw) :=
  ⟨rfl, rfl, rfl, by decide +kernel, rfl, by decide +kernel, by decide +kernel⟩
def dc : DrawC := ⟨80021, 701, 2147479991, 71011, 307, 2147469983, 111, 60013, 71, 2147459999⟩
section
variable {P : Program} {w : World} {K : PySem.W.Frag} {mg : Str → Option Value} {base : Heap}
theorem canLayI : ∀ ns : List Int, PyData.canLayAll0 (ns.map PyData.int) = true ∧ PyData.depthAll (ns.map PyData.int) = 0
  | [] => ⟨rfl, rfl⟩
  | n :: r => by
    obtain ⟨h1, h2⟩ := canLayI r
    rw [List.map_cons]
    exact ⟨by rw [PyData.canLayAll0, h1]; rfl, by rw [PyData.depthAll, h2]; rfl⟩
theorem shapedI (ns : List Int) : SeqAt.shaped (.list (ns.map PyData.int)) = true := by
  obtain ⟨h1, h2⟩ := canLayI ns
  unfold SeqAt.shaped
  rw [PyData.canLay0, h1, PyData.depth, h2]
  rfl
theorem dpI {K : PySem.W.Frag} {H : Hp} : ∀ ns : List Int, DpAll K H (ns.map V.int) (ns.map PyData.int)
  | [] => .nil
  | n :: r => .cons (.int n) (dpI r)
theorem eqvNil : ∀ ns : List Int, PyData.eqv (.list (ns.map PyData.int)) (.list []) = decide (ns = [])
  | [] => rfl
  | _ :: _ => rfl
theorem bd1 {x i a : Int} (A B : Int) (h0 : 0 ≤ i) (h1 : i ≤ 100000) (ha : 0 < a) (ha2 : a ≤ 4294967296) (hA : 0 ≤ A) (hA2 : A ≤ 4294967296) (hB : 0 ≤ B) (hB2 : B ≤ 4294967296) : (x.fmod a + A * i + B).natAbs < 2 ^ 64 := by
  obtain ⟨c1, c2⟩ := fmodB (x := x) ha
  have m1 : 0 ≤ A * i := Int.mul_nonneg hA h0
  have m2 : A * i ≤ 4294967296 * 100000 := Int.mul_le_mul hA2 h1 h0 (by decide)
  omega
theorem bd2 {x i a : Int} (A B C : Int) (h0 : 0 ≤ i) (h1 : i ≤ 100000) (ha : 0 < a) (ha2 : a ≤ 4294967296) (hA : 0 ≤ A) (hA2 : A ≤ 1000000) (hB : 0 ≤ B) (hB2 : B ≤ 1000000) (hC : 0 ≤ C) (hC2 : C ≤ 4294967296) : (x.fmod a * (2 * i + A) + B * i * i + C).natAbs < 2 ^ 64 := by
  obtain ⟨c1, c2⟩ := fmodB (x := x) ha
  have m1 : 0 ≤ x.fmod a * (2 * i + A) := Int.mul_nonneg c1 (by omega)
  have m2 : x.fmod a * (2 * i + A) ≤ 4294967296 * 1200000 := Int.mul_le_mul (by omega) (by omega) (by omega) (by decide)
  have m3 : 0 ≤ B * i := Int.mul_nonneg hB h0
  have m4 : B * i ≤ 1000000 * 100000 := Int.mul_le_mul hB2 h1 h0 (by decide)
  have m5 : 0 ≤ B * i * i := Int.mul_nonneg m3 h0
  have m6 : B * i * i ≤ (1000000 * 100000) * 100000 := Int.mul_le_mul m4 h1 h0 (by decide)
  omega
theorem bd3 {i : Int} (B : Int) (h0 : 0 ≤ i) (h1 : i ≤ 100000) (hB : 0 ≤ B) (hB2 : B ≤ 1000000) : -(2 ^ 64) < B * i ∧ B * i < 2 ^ 64 := by
  have m3 : 0 ≤ B * i := Int.mul_nonneg hB h0
  have m4 : B * i ≤ 1000000 * 100000 := Int.mul_le_mul hB2 h1 h0 (by decide)
  omega
theorem bd4 {x a : Int} (ha : 0 < a) (ha2 : a ≤ 4294967296) : -(2 ^ 64) < x.fmod a ∧ x.fmod a < 2 ^ 64 := by
  obtain ⟨c1, c2⟩ := fmodB (x := x) ha
  omega
theorem drawF_args {c : DrawC} {ds : List Dat} {p : Pen} (h : drawF c ds p ≠ .no) : ∃ m, ds = [.pen, .int m] ∧ 0 < m ∧ m ≤ 1000 ∧ p.i < 100000 := by
  unfold drawF at h
  split at h
  · rename_i m
    by_cases q : 0 < m ∧ m ≤ 1000 ∧ p.i < 100000
    · exact ⟨m, rfl, q⟩
    · rw [if_neg q] at h
      exact (h rfl).elim
  · exact (h rfl).elim
theorem ok_draw {f : Addr} {fd : FuncData} {k : Nat} (F : Fun K "_law_draw" "_law_draw" sDraw f fd) (T : Nm mg) : FnD P w K mg base CX0 (k + 1) f fd ["_law_pen_here", "_law_many"] (drawF dc) := by
  refine ⟨F.ok scDraw (fun vs H Q E h => h.1) (fun cdv A outer s H vs Q E hr h => ?_), drawF_len⟩
  obtain ⟨hl, p, ex, ds, pn, nd, hex, hP, rs, h5⟩ := h
  have hnn : drawF dc ds pn ≠ .no := fun z => by rw [z] at h5; exact h5
  obtain ⟨m, rfl, hm, hm2, hi⟩ := drawF_args hnn
  have h5' : ∀ v H', Kp (p :: ex) H H' → (∀ a ∈ ex, H' a = H a) → PenOk p (p :: ex) H' (drawN dc m pn).2 → Rp K p (p :: ex) H' v (.int (drawN dc m pn).1) → Q v H' := by
    have e : drawF dc [.pen, .int m] pn = .ok (.int (drawN dc m pn).1) (drawN dc m pn).2 := by
      unfold drawF
      dsimp only
      rw [if_pos ⟨hm, hm2, hi⟩]
    rw [e] at h5
    exact h5
  cases rs with
  | cons r1 rs =>
    cases rs with
    | cons r2 rs =>
      cases rs
      cases r1
      cases r2
      obtain ⟨c, hp1, hp2, hp3⟩ := hP.at_
      have hne : c ≠ p := fun z => hp2 (z ▸ List.mem_cons_self ..)
      have q : ∀ d i' g' H', drawN dc m pn = (d, { pn with i := i', g := g' }) → (∀ b o, b ≠ p → H b = some o → H' b = some o) → H' p = some (.lst [.ref c, .int i', .int g']) → 0 ≤ i' → i' ≤ 100000 → 0 ≤ g' → Q (.int d) H' := fun d i' g' H' e gr ep h0 h1 hg => by
        rw [e] at h5'
        obtain ⟨k1, k2, k3⟩ := pen_fin (K := K) nd hex hP hp1 hp2 hp3 gr ep h0 h1 hg
        exact h5' (.int d) H' k1 k2 k3 (.int d)
      obtain ⟨ns, i, g, TT⟩ := pn
      dsimp only at hi hp1 hp3 q
      refine ⟨_, (pss_cons (ps_if (pt_cmpR op_gt (pe_ix ix_list (pv 0) pe_int (fun _ _ => rfl)) pe_int (nomark _))
 (pss_cons (ps_set (i := 2) scDraw.nd rfl (.inl rfl) (pe_op op_modN (pe_callTy call_int1 (by rfl) T.int (by decide +kernel) (pa_cons (pe_ix ix_list (pv 0) pe_int (fun _ _ => rfl)) pa_nil)) (pv 1)))
 (pss_cons (ps_asg (pe_op op_fdivN (pe_callTy call_int1 (by rfl) T.int (by decide +kernel) (pa_cons (pe_ix ix_list (pv 0) pe_int (fun _ _ => rfl)) pa_nil)) (pv 1)) (pg_sub (pv 0) pe_int set_list))
 (pss_one (ps_ret (pv 2)))))
 pss_nil)
 (pss_cons (ps_set (i := 3) scDraw.nd rfl (.inl rfl) (pe_ix ix_list (pv 0) pe_int (fun _ _ => rfl)))
 (pss_cons (ps_asg (pe_op op_add (pv 3) pe_int) (pg_sub (pv 0) pe_int set_list))
 (pss_cons (ps_set (i := 4) scDraw.nd rfl (.inl rfl) (pe_op op_add (pe_op op_mul pe_int (pv 3)) pe_int))
 (pss_cons (ps_if (pt_cmpR (op_neD hr.units) (pe_ix ix_list (pv 0) pe_int (fun _ _ => rfl)) (pe_lst pa_nil) (nomark _))
 (pss_one (ps_set (i := 4) scDraw.nd rfl (.inl rfl) (pe_ix ix_list (pe_ix ix_list (pv 0) pe_int (fun _ _ => rfl)) (pe_op op_modN (pe_callTy call_int1 (by rfl) T.int (by decide +kernel) (pa_cons (pv 3) pa_nil)) (pe_callB call_len_seq (by rfl) T.len PySem.boot_len (pa_cons (pe_ix ix_list (pv 0) pe_int (fun _ _ => rfl)) pa_nil))) (fun _ _ => rfl))))
 pss_nil)
 (pss_cons (ps_if (PW.pt (pw_and (pt_cmpR op_lt (pv 3) (pe_callB call_len_seq (by rfl) T.len PySem.boot_len (pa_cons (pe_ix ix_list (pv 0) pe_int (fun _ _ => rfl)) pa_nil)) (nomark _)) (pw_and1 (pt_cmpR op_ge (pe_callB call_abs (by rfl) T.abs (by decide +kernel) (pa_cons (pv 4) pa_nil)) (pe_op op_pow pe_int pe_int) (nomark _)))))
 (pss_cons (ps_set (i := 5) scDraw.nd rfl (.inl rfl) (pe_op op_add (pe_op op_mul pe_int (pe_op op_sub (pe_callB call_abs (by rfl) T.abs (by decide +kernel) (pa_cons (pv 4) pa_nil)) (pe_op op_pow pe_int pe_int))) (pe_callTy call_int1 (by rfl) T.int (by decide +kernel) (pa_cons (pe_cmpR op_lt (pv 4) pe_int (nomark _)) pa_nil))))
 (pss_cons (ps_asg (pe_op op_fdivN (pe_callTy call_int1 (by rfl) T.int (by decide +kernel) (pa_cons (pv 5) pa_nil)) (pv 1)) (pg_sub (pv 0) pe_int set_list))
 (pss_one (ps_ret (pe_op op_modN (pe_callTy call_int1 (by rfl) T.int (by decide +kernel) (pa_cons (pv 5) pa_nil)) (pv 1))))))
 pss_nil)
 (pss_cons (ps_set (i := 6) scDraw.nd rfl (.inl rfl) (pe_op op_modN (pe_callTy call_int1 (by rfl) T.int (by decide +kernel) (pa_cons (pe_op op_pow (pe_op op_add (pe_op op_add (pe_op op_modN (pe_callTy call_int1 (by rfl) T.int (by decide +kernel) (pa_cons (pv 4) pa_nil)) pe_int) (pe_op op_mul pe_int (pv 3))) pe_int) pe_int) pa_nil)) pe_int))
 (pss_cons (ps_set (i := 6) scDraw.nd rfl (.inl rfl) (pe_op op_modN (pe_callTy call_int1 (by rfl) T.int (by decide +kernel) (pa_cons (pe_op op_pow (pe_op op_add (pe_op op_add (pe_op op_mul (pv 6) (pe_op op_add (pe_op op_mul pe_int (pv 3)) pe_int)) (pe_op op_mul (pe_op op_mul pe_int (pv 3)) (pv 3))) pe_int) pe_int) pa_nil)) pe_int))
 (pss_one (ps_ret (pe_op op_modN (pe_callTy call_int1 (by rfl) T.int (by decide +kernel) (pa_cons (pe_op op_fdivN (pv 6) pe_int) pa_nil)) (pv 1)))))))))))), ?_⟩
      have hS : SqL K H p [.ref c, .int i, .int g] := SqL.of hp1
      have mne : m ≠ 0 := by omega
      have i0 : 0 ≤ i := hP.lo
      have i1 : i ≤ 100000 := hP.hi
      have g0 : 0 ≤ g := hP.gg
      have mab : m.natAbs < 1073741824 := by omega
      refine ⟨.ref p, rfl, p, _, 2, .int g, rfl, rfl, hS, rfl, g, 0, rfl, rfl, _, rfl, ite2 (fun e => ?_) (fun e => ?_)⟩
      · have hg0 : 0 < g := by simpa using e
        refine ⟨.ref p, rfl, p, _, 2, .int g, rfl, rfl, hS, rfl, .inl ⟨g, rfl, .int m, rfl, g, m, rfl, rfl, mne, ?_⟩⟩
        refine ⟨.ref p, rfl, p, _, 2, .int g, rfl, rfl, hS, rfl, .inl ⟨g, rfl, .int m, rfl, g, m, rfl, rfl, ⟨mne, mab⟩, ?_⟩⟩
        refine ⟨.ref p, rfl, p, _, 2, 2, rfl, rfl, hp1, rfl, ?_⟩
        refine ⟨_, rfl, ?_⟩
        exact q _ i _ _ (by unfold drawN; rw [if_pos hg0]) (fun b o n eb => by rw [upd_ne n]; exact eb) upd_same i0 i1 (fdivN g0 hm)
      · have hg0 : ¬ 0 < g := by simpa using e
        refine ⟨.ref p, rfl, p, _, 1, .int i, rfl, rfl, hS, rfl, ?_⟩
        refine ⟨.int i, rfl, i, 1, rfl, rfl, .ref p, rfl, p, _, 1, 1, rfl, rfl, hp1, rfl, ?_⟩
        have h1 : SqL K (upd H p (.lst [.ref c, .int (i + 1), .int g])) p [.ref c, .int (i + 1), .int g] := SqL.of upd_same
        have hc1 : SqL K (upd H p (.lst [.ref c, .int (i + 1), .int g])) c (ns.map V.int) := SqL.of (by rw [upd_ne hne]; exact hp3)
        refine ⟨.int i, rfl, 80021, i, rfl, rfl, .inl ⟨by decide, by decide⟩, _, 701, rfl, rfl, ?_⟩
        refine ⟨.ref p, rfl, p, _, 0, .ref c, rfl, rfl, h1, rfl, Nat.zero_le _, fun l nl => ?_⟩
        have sl : Same (upd H p (.lst [.ref c, .int (i + 1), .int g])) (upd (upd H p (.lst [.ref c, .int (i + 1), .int g])) l (.lst [])) := fun b x e => by
          rw [upd_ne (ne_of_none e nl)]
          exact e
        refine ⟨.list (ns.map PyData.int), .list [], .lst (sl.seq hc1) (dpI ns), .lst (SqL.of upd_same) .nil, shapedI ns, rfl, _, rfl, ?_⟩
        rw [eqvNil]
        have h1' : SqL K (upd (upd H p (.lst [.ref c, .int (i + 1), .int g])) l (.lst [])) p [.ref c, .int (i + 1), .int g] := sl.seq h1
        have hp' : upd (upd H p (.lst [.ref c, .int (i + 1), .int g])) l (.lst []) p = some (.lst [.ref c, .int (i + 1), .int g]) := sl _ _ upd_same
        have hc' : SqL K (upd (upd H p (.lst [.ref c, .int (i + 1), .int g])) l (.lst [])) c (ns.map V.int) := sl.seq hc1
        have gr : ∀ b o, b ≠ p → H b = some o → upd (upd H p (.lst [.ref c, .int (i + 1), .int g])) l (.lst []) b = some o := fun b o n e => sl _ _ (by rw [upd_ne n]; exact e)
        by_cases hns : ns = []
        case' pos =>
          have hcell : cellOf dc ns i = 80021 * i + 701 := by
            unfold cellOf
            rw [if_pos hns]
            rfl
          rw [decide_eq_true hns]
          refine iteF ?_
        case' neg =>
          rw [decide_eq_false hns]
          refine iteT ?_
          have npos : 0 < ((ns.map V.int).length : Int) := by
            rw [List.length_map]
            cases ns with
            | nil => exact absurd rfl hns
            | cons a r => rw [List.length_cons]; omega
          obtain ⟨b1, b2⟩ := fmodB (x := i) npos
          have hj : (i.fmod ((ns.map V.int).length : Int)).toNat < (ns.map V.int).length := by omega
          have hz : (ns.map V.int)[(i.fmod ((ns.map V.int).length : Int)).toNat]? = some (.int (ns.getD (i.fmod ((ns.map V.int).length : Int)).toNat 0)) := by
            rw [List.getElem?_eq_getElem hj, List.getElem_map]
            have hj2 := hj
            rw [List.length_map] at hj2
            rw [List.getD_eq_getElem?_getD, List.getElem?_eq_getElem (by simpa using hj2)]
            rfl
          have hcell : cellOf dc ns i = ns.getD (i.fmod ((ns.map V.int).length : Int)).toNat 0 := by
            unfold cellOf
            rw [if_neg hns, List.length_map]
          generalize ns.getD (i.fmod ((ns.map V.int).length : Int)).toNat 0 = z at hz hcell
          refine ⟨.ref p, rfl, p, _, 0, .ref c, rfl, rfl, h1', rfl, .int i, rfl, .inl ⟨i, rfl, .ref p, rfl, p, _, 0, .ref c, rfl, rfl, h1', rfl, c, _, rfl, .inl hc', i, _, rfl, rfl, by omega, c, _, _, .int z, rfl, rfl, hc', ?_, ?_⟩⟩
          · have e3 := atI_nat hz
            rw [Int.toNat_of_nonneg b1] at e3
            exact e3
        all_goals
          refine ⟨.int i, rfl, .ref p, rfl, p, _, 0, .ref c, rfl, rfl, h1', rfl, c, _, rfl, .inl hc', i, _, rfl, rfl, _, rfl, ite2 (fun e1 => ?_) (fun e1 => ?_)⟩
          case' refine_1 =>
            refine ⟨_, rfl, _, rfl, 10, 18, rfl, rfl, ⟨by decide, by decide, by decide⟩, _, _, rfl, rfl, _, rfl, ite2 (fun e2 => ?_) (fun e2 => ?_)⟩
            case' refine_1 =>
              have e3 := of_decide_eq_true e2
              have e4 : i < (ns.length : Int) := by
                have := of_decide_eq_true e1
                rw [List.length_map] at this
                exact this
              refine ⟨_, rfl, _, rfl, 10, 18, rfl, rfl, ⟨by decide, by decide, by decide⟩, _, _, rfl, rfl, 2, _, rfl, rfl, .inl ⟨by decide, by decide⟩, _, rfl, _, _, rfl, rfl, .inr ⟨_, rfl, _, _, rfl, rfl, ?_⟩⟩
              refine ⟨_, rfl, .inl ⟨_, rfl, .int m, rfl, _, m, rfl, rfl, ⟨mne, mab⟩, .ref p, rfl, p, _, 2, 2, rfl, rfl, hp', rfl, ?_⟩⟩
              refine ⟨_, rfl, .inl ⟨_, rfl, .int m, rfl, _, m, rfl, rfl, mne, ?_⟩⟩
              refine q _ (i + 1) _ _ ?_ (fun b o n eb => by rw [upd_ne n]; exact gr b o n eb) upd_same (by omega) (by omega) (fdivN ?_ hm)
              · unfold drawN
                dsimp only
                rw [if_neg hg0, hcell, if_pos ⟨e4, e3⟩]
                rfl
              · generalize (10 : Int) ^ Int.toNat 18 = tt at e3 ⊢
                have z0 : ∀ b : Bool, 0 ≤ (if b = true then (1 : Int) else 0) := fun b => by cases b <;> decide
                exact Int.add_nonneg (Int.mul_nonneg (by decide) (by omega)) (z0 _)
          all_goals
            refine ⟨_, rfl, .inl ⟨_, rfl, _, 2147479991, rfl, rfl, (show (2147479991 : Int) ≠ 0 by decide), .int i, rfl, 71011, i, rfl, rfl, .inl ⟨by decide, by decide⟩, _, _, rfl, rfl, _, 307, rfl, rfl, _, 5, rfl, rfl, ⟨by decide, by decide, bd1 71011 307 i0 i1 (by decide) (by decide) (by decide) (by decide) (by decide) (by decide)⟩, .inl ⟨_, rfl, _, 2147469983, rfl, rfl, (show (2147469983 : Int) ≠ 0 by decide), ?_⟩⟩⟩
            refine ⟨_, rfl, .int i, rfl, 2, i, rfl, rfl, .inl ⟨by decide, by decide⟩, _, 111, rfl, rfl, _, _, rfl, rfl, .inl (bd4 (by decide) (by decide)), .int i, rfl, 60013, i, rfl, rfl, .inl ⟨by decide, by decide⟩, .int i, rfl, _, i, rfl, rfl, .inl (bd3 60013 i0 i1 (by decide) (by decide)), _, _, rfl, rfl, _, 71, rfl, rfl, _, 3, rfl, rfl,
              ⟨by decide, by decide, bd2 111 60013 71 i0 i1 (by decide) (by decide) (by decide) (by decide) (by decide) (by decide) (by decide) (by decide)⟩, .inl ⟨_, rfl, _, 2147459999, rfl, rfl, (show (2147459999 : Int) ≠ 0 by decide), ?_⟩⟩
            refine ⟨_, rfl, _, 32, rfl, rfl, (show (32 : Int) ≠ 0 ∧ (32 : Int).natAbs < 1073741824 by decide), .inl ⟨_, rfl, .int m, rfl, _, m, rfl, rfl, mne, ?_⟩⟩
            refine q _ (i + 1) g _ ?_ gr hp' (by omega) (by omega) g0
            unfold drawN
            dsimp only
            rw [if_neg hg0, hcell, if_neg]
            · rfl
            · rintro ⟨z1, z2⟩
              first
              | exact e2 (decide_eq_true z2)
              | exact e1 (decide_eq_true (by rw [List.length_map]; exact z1))
end
end BD
namespace BD
open PySem PySem.Spec PyProof.Rows L2
structure Dun (P : Program) (w : World) (K : PySem.W.Frag) (mg : Str → Option Value) (base : Heap) (ok : Addr → Bool) (nm : Str) (k : Nat) (ps : List Str) (G : FD) : Prop where
  ex : ∃ f fd, FnD P w K mg base CX0 k f fd ps G ∧ Binds K fd ps [] ∧ (∀ C, ok C = true → PySem.W.findIn K (.ref C) nm = some (some (.ref f))) ∧ PySem.W.isFn K (.ref f) = true ∧ PySem.W.fnIn K f = true
  ne : ∀ ds p C fs p', G ds p ≠ .ex C fs p'
structure DunEq (P : Program) (w : World) (K : PySem.W.Frag) (mg : Str → Option Value) (base : Heap) (ok : Addr → Bool) (tys : List Value) (k : Nat) (ps : List Str) (G : FD) : Prop where
  ex : ∃ f fd, FnD P w K mg base CX0 k f fd ps G ∧ Binds K fd ps [] ∧ (∀ C, ok C = true → EqC K C f tys) ∧ PySem.W.isFn K (.ref f) = true
  ne : ∀ ds p C fs p', G ds p ≠ .ex C fs p'
  ins : ∀ C, Value.ref C ∈ tys → InsK K C
structure DunIt (P : Program) (w : World) (K : PySem.W.Frag) (mg : Str → Option Value) (base : Heap) (ok : Addr → Bool) (nm : Str) (k : Nat) : Prop where
  ex : ∃ f, (∀ C, ok C = true → ItFn P w K mg base k f C nm) ∧ (∀ C, ok C = true → PySem.W.findIn K (.ref C) "__iter__" = some (some (.ref f))) ∧ PySem.W.isFn K (.ref f) = true
section
variable {X : Cx} {W : WX} {k : Nat} {ps : List Str} {G : FD} {ok : Addr → Bool} {tys : List Value}
theorem de_lenX {e : Expr} {p pos : Pos} {g : DSt → Out Dat} (D : Dun X.prog X.w X.K X.mg X.base ok "__len__" k ps G) (hr : Room (k + 1) X.A) (hg : Gl X "len") (hm : X.mg "len" = none) (ha : DE X W e g) (hs : starEach (e :: []) X.env = (false, eval e X.env) :: starEach [] X.env := by rfl) (hpl : (backTo pos (starEach [] X.env)).any (·.1) = false := by rfl) :
    DE X W (.Call (.Name "len" p) [e] [] pos) (fun s => (g s).bind (hLenO ok G)) := by
  obtain ⟨f, fd, h1, h2, h3, h4, h5⟩ := D.ex
  exact de_lenO h1 D.ne hr h2 h3 h4 hg hm ha hs hpl
theorem de_strX {e : Expr} {p pos : Pos} {g : DSt → Out Dat} (D : Dun X.prog X.w X.K X.mg X.base ok "__str__" k ps G) (hr : Room (k + 2) X.A) (hu : X.A.units + 64 < cLine) (hg : Gl X "str") (hm : X.mg "str" = none) (ha : DE X W e g) (hs : starEach (e :: []) X.env = (false, eval e X.env) :: starEach [] X.env := by rfl) (hpl : (backTo pos (starEach [] X.env)).any (·.1) = false := by rfl) :
    DE X W (.Call (.Name "str" p) [e] [] pos) (fun s => (g s).bind (hStrO ok G)) := by
  obtain ⟨f, fd, h1, h2, h3, h4, h5⟩ := D.ex
  exact de_strO h1 D.ne hr (show X.A.units + 1 + 1 < cLine by omega) h2 h3 h4 hg hm ha hs hpl
theorem de_ixX {a b : Expr} {pos : Pos} {ga gb : DSt → Out Dat} (D : Dun X.prog X.w X.K X.mg X.base ok "__getitem__" k ps G) (hr : Room (k + 1) X.A) (ha : DE X W a ga) (hi : DE X W b gb) (hsl : ∀ x i, subscripted b true (.ref x) i = runValue (.builtin "lifetime.subscript" ⟨[.ref x, i], []⟩) := by intro _ _; with_unfolding_all rfl) :
    DE X W (.Subscript a b pos) (gOpP (hIxO ok G) ga gb) := by
  obtain ⟨f, fd, h1, h2, h3, h4, h5⟩ := D.ex
  exact de_ixO h1 D.ne hr h2 h3 h4 h5 ha hi hsl
theorem de_inX {a b : Expr} {pos : Pos} {ga gb : DSt → Out Dat} (D : Dun X.prog X.w X.K X.mg X.base ok "__contains__" k ps G) (hr : Room k X.A) (ha : DE X W a ga) (hb : DE X W b gb) (hm : behindInMarks .In b = false := by rfl) : DE X W (.Compare a [.In] [b] pos) (gOpP (hInO false ok G) ga gb) := by
  obtain ⟨f, fd, h1, h2, h3, h4, h5⟩ := D.ex
  exact de_cmpP (op_inO h1.fn hr h2 h3 h4) (d2_inO h1 D.ne) ha hb hm
theorem dt_inX {a b : Expr} {pos : Pos} {ga gb : DSt → Out Dat} (D : Dun X.prog X.w X.K X.mg X.base ok "__contains__" k ps G) (hr : Room k X.A) (ha : DE X W a ga) (hb : DE X W b gb) (hm : behindInMarks .In b = false := by rfl) : DT X W (.Compare a [.In] [b] pos) (gB (gOpP (hInO false ok G) ga gb)) := by
  obtain ⟨f, fd, h1, h2, h3, h4, h5⟩ := D.ex
  exact dt_cmpP (op_inO h1.fn hr h2 h3 h4) (d2_inO h1 D.ne) ha hb hm
theorem de_eqX {a b : Expr} {pos : Pos} {ga gb : DSt → Out Dat} (D : DunEq X.prog X.w X.K X.mg X.base ok tys k ps G) (hr : Room k X.A) (hu : X.A.units + 64 < cLine) (ha : DE X W a ga) (hb : DE X W b gb) (hm : behindInMarks .Eq b = false := by rfl) : DE X W (.Compare a [.Eq] [b] pos) (gOpP (hEqO false ok tys G) ga gb) := by
  obtain ⟨f, fd, h1, h2, h3, h4⟩ := D.ex
  exact de_cmpP (op_eqO h1.fn hr (by omega) h2 h3 h4) (d2_eqO h1 D.ne D.ins) ha hb hm
theorem dt_eqX {a b : Expr} {pos : Pos} {ga gb : DSt → Out Dat} (D : DunEq X.prog X.w X.K X.mg X.base ok tys k ps G) (hr : Room k X.A) (hu : X.A.units + 64 < cLine) (ha : DE X W a ga) (hb : DE X W b gb) (hm : behindInMarks .Eq b = false := by rfl) : DT X W (.Compare a [.Eq] [b] pos) (gB (gOpP (hEqO false ok tys G) ga gb)) := by
  obtain ⟨f, fd, h1, h2, h3, h4⟩ := D.ex
  exact dt_cmpP (op_eqO h1.fn hr (by omega) h2 h3 h4) (d2_eqO h1 D.ne D.ins) ha hb hm
theorem de_neX {a b : Expr} {pos : Pos} {ga gb : DSt → Out Dat} (D : DunEq X.prog X.w X.K X.mg X.base ok tys k ps G) (hr : Room (k + 1) X.A) (hu : X.A.units + 64 < cLine) (ha : DE X W a ga) (hb : DE X W b gb) (hm : behindInMarks .NotEq b = false := by rfl) : DE X W (.Compare a [.NotEq] [b] pos) (gOpP (hEqO true ok tys G) ga gb) := by
  obtain ⟨f, fd, h1, h2, h3, h4⟩ := D.ex
  exact de_cmpP (op_neO h1.fn hr (by omega) h2 h3 h4) (d2_eqO h1 D.ne D.ins) ha hb hm
theorem dt_neX {a b : Expr} {pos : Pos} {ga gb : DSt → Out Dat} (D : DunEq X.prog X.w X.K X.mg X.base ok tys k ps G) (hr : Room (k + 1) X.A) (hu : X.A.units + 64 < cLine) (ha : DE X W a ga) (hb : DE X W b gb) (hm : behindInMarks .NotEq b = false := by rfl) : DT X W (.Compare a [.NotEq] [b] pos) (gB (gOpP (hEqO true ok tys G) ga gb)) := by
  obtain ⟨f, fd, h1, h2, h3, h4⟩ := D.ex
  exact dt_cmpP (op_neO h1.fn hr (by omega) h2 h3 h4) (d2_eqO h1 D.ne D.ins) ha hb hm
theorem di_ownX {tg e : Expr} {g : DSt → Out Dat} {nm : Str} (D : DunIt X.prog X.w X.K X.mg X.base ok nm k) (hr : Room k X.A) (h : DE X W e g) : DIt X W tg e (gIown ok nm g) := by
  obtain ⟨f, h1, h2, h3⟩ := D.ex
  exact di_own h h1 h2 h3 hr
end
/-- how na values and keywords ks become the parameters' values -/
structure KwOk (K : PySem.W.Frag) (f : Addr) (fd : FuncData) (ps : List Str) (na : Nat) (ks : List Str) (gD : List Dat → List Dat → List Dat) : Prop where
  ex : ∃ g gV, KBn K fd ps (na + 1) ks g gV ∧ Arr gV na ks.length gD
structure MkAll (P : Program) (w : World) (K : PySem.W.Frag) (mg : Str → Option Value) (base : Heap) (x : Str) (C : Addr) (k n : Nat) (G : FI) (forms : List (Nat × List Str × (List Dat → List Dat → List Dat))) : Prop where
  at_ : mg x = some (.ref C)
  ne : ∀ ds p C fs p', G ds p ≠ .ex C fs p'
  ex : ∃ f fd ps, Mk K C f ∧ FnI P w K mg base CX0 k f fd ps n C G ∧ ∀ q ∈ forms, KwOk K f fd ps q.1 q.2.1 q.2.2
section
variable {X : Cx} {W : WX} {k n : Nat} {C : Addr} {G : FI} {x : Str} {forms : List (Nat × List Str × (List Dat → List Dat → List Dat))}
theorem de_mkX {na : Nat} {ks : List Str} {gD : List Dat → List Dat → List Dat} {p pos : Pos} {e : Expr} {es : List Expr} {kws : List Keyword} {ga gk : DSt → Out (List Dat)} (D : MkAll X.prog X.w X.K X.mg X.base x C k n G forms) (q : (na, ks, gD) ∈ forms) (hr : Room (k + 1) X.A) (hg : Gl X x)
    (ha : DA X W (e :: es) ga) (hkw : DKw X W kws gk) (hall : (backToKw pos (keywordEach kws X.env)).all (·.1.isSome) = true := by rfl) (hks : (backToKw pos (keywordEach kws X.env)).filterMap (·.1) = ks := by rfl)
    (hdb : (x == ("__debug__" : Str)) = false := by decide) (he : starEach (e :: es) X.env = (false, eval e X.env) :: starEach es X.env := by rfl)
    (hpl : ((backTo pos (starEach (e :: es) X.env)).any (·.1) || (backToKw pos (keywordEach kws X.env)).any (·.1.isNone)) = false := by rfl) :
    DE X W (.Call (.Name x p) (e :: es) kws pos) (gMakeK C na ks.length gD G ga gk) := by
  obtain ⟨f, fd, ps, h1, h2, h3⟩ := D.ex
  obtain ⟨g, gV, h4, h5⟩ := (h3 _ q).ex
  exact de_makeN h1 h2 D.ne hr hg D.at_ h4 h5 ha hkw hall hks hdb he hpl
theorem de_mkX0 {ks : List Str} {gD : List Dat → List Dat → List Dat} {p pos : Pos} {kws : List Keyword} {gk : DSt → Out (List Dat)} (D : MkAll X.prog X.w X.K X.mg X.base x C k n G forms) (q : (0, ks, gD) ∈ forms) (hr : Room (k + 1) X.A) (hg : Gl X x)
    (hkw : DKw X W kws gk) (hall : (backToKw pos (keywordEach kws X.env)).all (·.1.isSome) = true := by rfl) (hks : (backToKw pos (keywordEach kws X.env)).filterMap (·.1) = ks := by rfl) (hdb : (x == ("__debug__" : Str)) = false := by decide)
    (hpl : ((backTo pos (starEach [] X.env)).any (·.1) || (backToKw pos (keywordEach kws X.env)).any (·.1.isNone)) = false := by rfl) :
    DE X W (.Call (.Name x p) [] kws pos) (gMakeK C 0 ks.length gD G gNil gk) := by
  obtain ⟨f, fd, ps, h1, h2, h3⟩ := D.ex
  obtain ⟨g, gV, h4, h5⟩ := (h3 _ q).ex
  exact de_makeK0 h1 h2 D.ne hr hg D.at_ h4 h5 hkw hall hks hdb hpl
end
structure StOk (P : Program) (w : World) (K : PySem.W.Frag) (mg : Str → Option Value) (base : Heap) (x m : Str) (C : Addr) (k : Nat) (ps : List Str) (G : FD) : Prop where
  at_ : mg x = some (.ref C)
  ne : ∀ ds p C fs p', G ds p ≠ .ex C fs p'
  ex : ∃ mc p g fd, SMet K C mc m p g ∧ FnD P w K mg base CX0 k g fd ps G ∧ Binds K fd ps [] ∧ ∃ gg gV, KBn K fd ps 0 ps gg gV ∧ ArrF gV 0 ps.length (fun _ es => es)
section
variable {X : Cx} {W : WX} {k : Nat} {C : Addr} {G : FD} {x m : Str} {ps : List Str}
theorem de_stX {np apos pos : Pos} {e : Expr} {es : List Expr} {ga : DSt → Out (List Dat)} {pl : Sem Bool} (D : StOk X.prog X.w X.K X.mg X.base x m C k ps G) (hr : Room k X.A) (hg : Gl X x) (ha : DA X W (e :: es) ga) (hdb : (x == ("__debug__" : Str)) = false := by decide)
    (hst : starEach (e :: es) X.env = (false, eval e X.env) :: starEach es X.env := by rfl) (hpl : (backTo pos (starEach es X.env)).any (·.1) = false := by rfl)
    (ht : eval (.Call (.Attribute (.Name x np) m apos) (e :: es) [] pos) X.env = (do
      let ov ← eval (.Name x np) X.env
      standAt apos.atName
      let (f, first) ← holding [ov] (getMethod ov m pl)
      callWith pos f first (backTo pos (starEach (e :: es) X.env)) (backToKw pos (keywordEach [] X.env))) := by rfl) :
    DE X W (.Call (.Attribute (.Name x np) m apos) (e :: es) [] pos) (gCall G ga) := by
  obtain ⟨mc, p, g, fd, h1, h2, h3, _⟩ := D.ex
  exact de_smeth h1 h2 D.ne hr h3 hg D.at_ ha hdb hst hpl ht
theorem de_stX0 {np apos pos : Pos} {kws : List Keyword} {gk : DSt → Out (List Dat)} {pl : Sem Bool} (D : StOk X.prog X.w X.K X.mg X.base x m C k ps G) (hr : Room k X.A) (hg : Gl X x) (hkw : DKw X W kws gk) (hdb : (x == ("__debug__" : Str)) = false := by decide)
    (hall : (backToKw pos (keywordEach kws X.env)).all (·.1.isSome) = true := by rfl) (hks : (backToKw pos (keywordEach kws X.env)).filterMap (·.1) = ps := by rfl)
    (hpl : ((backTo pos (starEach [] X.env)).any (·.1) || (backToKw pos (keywordEach kws X.env)).any (·.1.isNone)) = false := by rfl)
    (ht : eval (.Call (.Attribute (.Name x np) m apos) [] kws pos) X.env = (do
      let ov ← eval (.Name x np) X.env
      standAt apos.atName
      let (f, first) ← holding [ov] (getMethod ov m pl)
      callWith pos f first (backTo pos (starEach [] X.env)) (backToKw pos (keywordEach kws X.env))) := by rfl) :
    DE X W (.Call (.Attribute (.Name x np) m apos) [] kws pos) (gCallK 0 ps.length (fun _ es => es) G gNil gk) := by
  obtain ⟨mc, p, g, fd, h1, h2, h3, gg, gV, h4, h5⟩ := D.ex
  exact de_smethK0 h1 h2 D.ne hr h4 h5 hg D.at_ hkw hdb hall hks hpl ht
end
end BD
namespace BD
open PySem PySem.Spec PyProof.Rows L2
section
variable {X : Cx} {W : WX}
abbrev LocF (X : Cx) (x : Str) : Prop := Loc X.env.scope x ∧ (X.fn x = true ∨ X.env.scope.names.lookup x = some .local)
theorem ds_par3T {i j l : Nat} {x y z : Str} {a b c : Expr} {px py pz pt pos : Pos} {kt k2 pt2} {g : DSt → Out (List DV)} (hc : X.calm = true) (hN : X.N.Nodup) (hi : X.N[i]? = some x) (hj : X.N[j]? = some y) (hl : X.N[l]? = some z) (hx : LocF X x) (hy : LocF X y) (hz : LocF X z) (ha : DNs X W [a, b, c] g)
    (hs : swapsWithSole [.Tuple [.Name x px, .Name y py, .Name z pz] kt pt] (.Tuple [a, b, c] k2 pt2) pos.line X.env = pure false := by rfl) (hw : swappedStores [.Tuple [.Name x px, .Name y py, .Name z pz] kt pt] (.Tuple [a, b, c] k2 pt2) X.env = pure none := by rfl)
    (h1 : (assignEach [.Tuple [.Name x px, .Name y py, .Name z pz] kt pt] X.env).map (·.2) = [assign (.Tuple [.Name x px, .Name y py, .Name z pz] kt pt) X.env] := by rfl) :
    DS X W (.Assign [.Tuple [.Name x px, .Name y py, .Name z pz] kt pt] (.Tuple [a, b, c] k2 pt2) pos) (gPar3 i j l g) := PS.imp (ps_asg (pe_tup ha) (pg_tup hc (pgs_cons (pg_name hN hi hx.1 hx.2) (pgs_cons (pg_name hN hj hy.1 hy.2) (pgs_cons (pg_name hN hl hz.1 hz.2) pgs_nil)))) hs hw h1) fun D σ H ⟨P, ex, s, rel, f⟩ => by
  unfold gPar3 at f
  refine ⟨P, ex, s, rel, ?_⟩
  cases q : g s with
  | ok dvs s1 =>
    rw [q] at f
    intro H1 vs l0 st
    match dvs, vs, l0, f with
    | [d1, d2, d3], [v1, v2, v3], l0, f =>
      refine ⟨by show 3 ≤ sizeLine; decide, fun p np => ⟨p, [v1, v2, v3], rfl, .inl (.inl upd_same), rfl, ?_⟩⟩
      have st := st.trans (Step.new (o := .tup [v1, v2, v3]) st.rel np)
      have l' : s1.env.length = σ.length := by
        have := st.rel.lens
        simp at this
        omega
      have z := st.store (dvs := [d2, d3]) (rs := [some v2, some v3]) l' i
      have z2 := z.store (dvs := [d3]) (rs := [some v3]) (by simp [l']) j
      have z3 := z2.store (dvs := []) (rs := []) (by simp [l']) l
      rw [List.append_nil, List.append_nil] at z3
      exact ⟨v1, _, rfl, v2, _, rfl, v3, _, rfl, rfl, f _ _ z3⟩
  | ex C fs p => rw [q] at f; exact fun H' od x => f σ H' od x
  | no => rw [q] at f; exact f
end
end BD
namespace BD
open PySem PySem.Spec PyProof.Rows L2
def fm1 : List Dat → List Dat → List Dat := fun ds _ => ds ++ [.str ""]
def fm2 : List Dat → List Dat → List Dat := fun ds _ => ds
def fm1k : List Dat → List Dat → List Dat := fun ds es => ds ++ es
def fm0ki : List Dat → List Dat → List Dat := fun _ es => es.reverse
def fm0i : List Dat → List Dat → List Dat := fun _ es => es ++ [.str ""]
def forms8 : List (Nat × List Str × (List Dat → List Dat → List Dat)) := [(1, [], fm1), (2, [], fm2), (1, ["keeps"], fm1k), (0, ["keeps", "images"], fm0ki), (0, ["images"], fm0i)]
section
variable {P : Program} {w : World} {K : PySem.W.Frag} {mg : Str → Option Value} {base : Heap} {ok : Addr → Bool} {CM : Addr} {tys : List Value} {GM : FI} {GS GE GH GG_ GL GT : FD}
abbrev s__law_pick : Stmt := top8 41
abbrev N__law_pick : List Str := ["_law_pen_here", "_law_some"]
abbrev PS__law_pick : List Str := ["_law_pen_here", "_law_some"]
theorem sc__law_pick : FnScope N__law_pick PS__law_pick (defScope s__law_pick) := ⟨rfl, rfl, rfl, by decide +kernel, rfl, by decide +kernel, by decide +kernel⟩
def g__law_pick (ok : Addr → Bool) (CM : Addr) (tys : List Value) (GM : FI) (GS GE GH GG_ GL GT : FD) : DSt → OutS := (gRet (gOp hIx (gH 1) (gI (gCall (drawF dc) (gCons (gVar 0) (gCons (gUn hLen (gH 1)) gNil))))))
abbrev F__law_pick (ok : Addr → Bool) (CM : Addr) (tys : List Value) (GM : FI) (GS GE GH GG_ GL GT : FD) : FD := FDof 2 0 (g__law_pick ok CM tys GM GS GE GH GG_ GL GT)
theorem ok__law_pick {f : Addr} {fd : FuncData} (F : Fun K "_law_pick" "_law_pick" s__law_pick f fd) (T : Nm mg) (hM : ∀ C, ok C = true → MisC K C)  (D__law_draw : DefOk P w K mg base "_law_draw" 1 ["_law_pen_here", "_law_many"] (drawF dc)) : FnD P w K mg base CX0 2 f fd PS__law_pick (F__law_pick ok CM tys GM GS GE GH GG_ GL GT) :=
  fnD_of (k := 1) F sc__law_pick fun cdv A outer s H E hr => by
    have hu64 := hr.units
    have hu1 := units1 hr.units
    exact (dss_one (ds_ret (de_ix (dhv 1) (dh_i (de_callD D__law_draw (hr.mono (by decide)) (by rfl) (da_cons (dv 0) (da_cons (de_b1 (id := "") call_lenW d1_len (by rfl) T.len PySem.boot_len (dhv 1)) da_nil)))) (fun _ _ => rfl))))
abbrev s__law_some_letters : Stmt := top8 42
abbrev N__law_some_letters : List Str := ["_law_pen_here", "_law_many", "_law_pool", "_law_k"]
abbrev PS__law_some_letters : List Str := ["_law_pen_here", "_law_many"]
theorem sc__law_some_letters : FnScope N__law_some_letters PS__law_some_letters (defScope s__law_some_letters) := ⟨rfl, rfl, rfl, by decide +kernel, rfl, by decide +kernel, by decide +kernel⟩
def g__law_some_letters (ok : Addr → Bool) (CM : Addr) (tys : List Value) (GM : FI) (GS GE GH GG_ GL GT : FD) : DSt → OutS := (gSeq (gSetN 2 (gUnN hNlist (gI (gC (.str "abcdefghijklmnopqrstuvwxyz")))))
 (gRet (gLc [3] (gIr (gCons (gVar 1) gNil)) (hName 3) gYes (gPopAt 2 (gCall (drawF dc) (gCons (gVar 0) (gCons (gUn hLen (gH 2)) gNil)))))))
abbrev F__law_some_letters (ok : Addr → Bool) (CM : Addr) (tys : List Value) (GM : FI) (GS GE GH GG_ GL GT : FD) : FD := FDof 2 2 (g__law_some_letters ok CM tys GM GS GE GH GG_ GL GT)
theorem ok__law_some_letters {f : Addr} {fd : FuncData} (F : Fun K "_law_some_letters" "_law_some_letters" s__law_some_letters f fd) (T : Nm mg) (hM : ∀ C, ok C = true → MisC K C)  (D__law_draw : DefOk P w K mg base "_law_draw" 1 ["_law_pen_here", "_law_many"] (drawF dc)) : FnD P w K mg base CX0 2 f fd PS__law_some_letters (F__law_some_letters ok CM tys GM GS GE GH GG_ GL GT) :=
  fnD_of (k := 1) F sc__law_some_letters fun cdv A outer s H E hr => by
    have hu64 := hr.units
    have hu1 := units1 hr.units
    exact (dss_cons (ds_setN (i := 2) sc__law_some_letters.nd rfl (by first | exact .inl rfl | exact .inr rfl) (dn_t1 (call_listW rfl) d1n_list (by rfl) T.list (by decide +kernel) (dh_i de_str)))
 (dss_one (ds_ret (de_lc (own := [("_law_k", 3)]) rfl sc__law_some_letters.nd (di_range (by rfl) T.range (da_cons (dv 1) da_nil)) (blkOk_by (own := [("_law_k", 3)]) (N := N__law_some_letters) (sc := (defScope s__law_some_letters)) (by decide +kernel)) (fun _ _ _ _ _ => dtc_name (i := 3) sc__law_some_letters.nd rfl (Or.inl rfl)) (fun _ _ _ _ _ => dts_nil) (fun _ _ _ _ _ => (de_popAt (i := 2) (pv _) (de_callD D__law_draw (hr.mono (by decide)) (by rfl) (da_cons (dv 0) (da_cons (de_b1 (id := "") call_lenW d1_len (by rfl) T.len PySem.boot_len (dhv 2)) da_nil)))))))))
abbrev s__law_escaped : Stmt := top8 43
abbrev N__law_escaped : List Str := ["_law_pen_here", "_law_some", "_law_tails", "_law_found", "_law_letter", "_law_stays"]
abbrev PS__law_escaped : List Str := ["_law_pen_here", "_law_some"]
theorem sc__law_escaped : FnScope N__law_escaped PS__law_escaped (defScope s__law_escaped) := ⟨rfl, rfl, rfl, by decide +kernel, rfl, by decide +kernel, by decide +kernel⟩
def g__law_escaped (ok : Addr → Bool) (CM : Addr) (tys : List Value) (GM : FI) (GS GE GH GG_ GL GT : FD) : DSt → OutS := (gSeq (gPar 2 3 (gNcons (gUnN hNlist (gH 1)) (gNcons gNd0 gNnil)))
 (gSeq (gFor (gIl (gVar 1)) (hName 4)
 (gSeq (gSet 5 (gAndV (gOp hNe (gH 4) (gI (gOp hIx (gH 1) (gI (gC (.int 0)))))) (gOp hEq (gI (gCall (drawF dc) (gCons (gVar 0) (gCons (gC (.int 2)) gNil)))) (gI (gC (.int 0))))))
 (gDPut 3 (gVar 4) (gIf (gB (gVar 5)) (gVar 4) (gOp hAdd (gI (gOp hIx (gH 1) (gI (gC (.int 0))))) (gI (gPopAt 2 (gCall (drawF dc) (gCons (gVar 0) (gCons (gUn hLen (gH 2)) gNil))))))))))
 (gRet (gVar 3))))
abbrev F__law_escaped (ok : Addr → Bool) (CM : Addr) (tys : List Value) (GM : FI) (GS GE GH GG_ GL GT : FD) : FD := FDof 2 4 (g__law_escaped ok CM tys GM GS GE GH GG_ GL GT)
theorem ok__law_escaped {f : Addr} {fd : FuncData} (F : Fun K "_law_escaped" "_law_escaped" s__law_escaped f fd) (T : Nm mg) (hM : ∀ C, ok C = true → MisC K C)  (D__law_draw : DefOk P w K mg base "_law_draw" 1 ["_law_pen_here", "_law_many"] (drawF dc)) : FnD P w K mg base CX0 2 f fd PS__law_escaped (F__law_escaped ok CM tys GM GS GE GH GG_ GL GT) :=
  fnD_of (k := 1) F sc__law_escaped fun cdv A outer s H E hr => by
    have hu64 := hr.units
    have hu1 := units1 hr.units
    exact (dss_cons (ds_par (i := 2) (j := 3) (by rfl) sc__law_escaped.nd rfl rfl (by decide) rfl rfl (dns_cons (dn_t1 (call_listW rfl) d1n_list (by rfl) T.list (by decide +kernel) (dhv 1)) (dns_cons dn_dict0 dns_nil)) (by rfl))
 (dss_cons (ds_for PassesOwn.never rfl (di_list (dv 1)) (dtg_name (i := 4) sc__law_escaped.nd rfl (by first | exact .inl rfl | exact .inr rfl))
 (dss_cons (ds_set (i := 5) sc__law_escaped.nd rfl (by first | exact .inl rfl | exact .inr rfl) (de_and (de_cmp (op_neW hu64) d2_ne (dhv 4) (dh_i (de_ix (dhv 1) (dh_i de_int) (fun _ _ => rfl))) (nomark _)) (de_one (de_cmp (op_eqW hu64) d2_eq (dh_i (de_callD D__law_draw (hr.mono (by decide)) (by rfl) (da_cons (dv 0) (da_cons de_int da_nil)))) (dh_i de_int) (nomark _)))))
 (dss_one (ds_dput (j := 3) hu1 (pv _) (dv 4) (de_if (dt_val (dv 5)) (dv 4) (de_op op_addW d2_add (dh_i (de_ix (dhv 1) (dh_i de_int) (fun _ _ => rfl))) (dh_i (de_popAt (i := 2) (pv _) (de_callD D__law_draw (hr.mono (by decide)) (by rfl) (da_cons (dv 0) (da_cons (de_b1 (id := "") call_lenW d1_len (by rfl) T.len PySem.boot_len (dhv 2)) da_nil)))))))))))
 (dss_one (ds_ret (dv 3)))))
abbrev s__law_any_image : Stmt := top8 44
abbrev N__law_any_image : List Str := ["_law_pen_here", "_law_some", "_law_many", "_law_k"]
abbrev PS__law_any_image : List Str := ["_law_pen_here", "_law_some"]
theorem sc__law_any_image : FnScope N__law_any_image PS__law_any_image (defScope s__law_any_image) := ⟨rfl, rfl, rfl, by decide +kernel, rfl, by decide +kernel, by decide +kernel⟩
def g__law_any_image (ok : Addr → Bool) (CM : Addr) (tys : List Value) (GM : FI) (GS GE GH GG_ GL GT : FD) : DSt → OutS := (gSeq (gSet 2 (gCall (F__law_pick ok CM tys GM GS GE GH GG_ GL GT) (gCons (gVar 0) (gCons (gLst (gCons (gC (.int 1)) (gCons (gC (.int 1)) (gCons (gC (.int 2)) (gCons (gC (.int 2)) (gCons (gC (.int 3)) (gCons (gC (.int 4)) gNil))))))) gNil))))
 (gRet (fun s => ((gC (.str "")) s).bind fun a s1 => match a with | .str z => gUn (hJoin (.str z)) (gI (gLc [3] (gIr (gCons (gVar 2) gNil)) (hName 3) gYes (gCall (F__law_pick ok CM tys GM GS GE GH GG_ GL GT) (gCons (gVar 0) (gCons (gVar 1) gNil))))) s1 | _ => .no)))
abbrev F__law_any_image (ok : Addr → Bool) (CM : Addr) (tys : List Value) (GM : FI) (GS GE GH GG_ GL GT : FD) : FD := FDof 2 2 (g__law_any_image ok CM tys GM GS GE GH GG_ GL GT)
theorem ok__law_any_image {f : Addr} {fd : FuncData} (F : Fun K "_law_any_image" "_law_any_image" s__law_any_image f fd) (T : Nm mg) (hM : ∀ C, ok C = true → MisC K C)  (D__law_pick : DefOk P w K mg base "_law_pick" 2 PS__law_pick (F__law_pick ok CM tys GM GS GE GH GG_ GL GT)) : FnD P w K mg base CX0 3 f fd PS__law_any_image (F__law_any_image ok CM tys GM GS GE GH GG_ GL GT) :=
  fnD_of (k := 2) F sc__law_any_image fun cdv A outer s H E hr => by
    have hu64 := hr.units
    have hu1 := units1 hr.units
    exact (dss_cons (ds_set (i := 2) sc__law_any_image.nd rfl (by first | exact .inl rfl | exact .inr rfl) (de_callD D__law_pick (hr.mono (by decide)) (by rfl) (da_cons (dv 0) (da_cons (de_lst (da_cons de_int (da_cons de_int (da_cons de_int (da_cons de_int (da_cons de_int (da_cons de_int da_nil))))))) da_nil))))
 (dss_one (ds_ret (de_join de_str (dh_i (de_lc (own := [("_law_k", 3)]) rfl sc__law_any_image.nd (di_range (by rfl) T.range (da_cons (dv 2) da_nil)) (blkOk_by (own := [("_law_k", 3)]) (N := N__law_any_image) (sc := (defScope s__law_any_image)) (by decide +kernel)) (fun _ _ _ _ _ => dtc_name (i := 3) sc__law_any_image.nd rfl (Or.inl rfl)) (fun _ _ _ _ _ => dts_nil) (fun _ _ _ _ _ => (de_callD D__law_pick (hr.mono (by decide)) (by rfl) (da_cons (dv 0) (da_cons (dv 1) da_nil))))))))))
abbrev s__law_table : Stmt := top8 45
abbrev N__law_table : List Str := ["_law_pen_here", "_law_some", "_law_way", "_law_left", "_law_found", "_law_letter"]
abbrev PS__law_table : List Str := ["_law_pen_here", "_law_some"]
theorem sc__law_table : FnScope N__law_table PS__law_table (defScope s__law_table) := ⟨rfl, rfl, rfl, by decide +kernel, rfl, by decide +kernel, by decide +kernel⟩
def g__law_table (ok : Addr → Bool) (CM : Addr) (tys : List Value) (GM : FI) (GS GE GH GG_ GL GT : FD) : DSt → OutS := (gSeq (gPar3 2 3 4 (gNcons (gN (gCall (drawF dc) (gCons (gVar 0) (gCons (gC (.int 6)) gNil)))) (gNcons (gUnN hNlist (gH 1)) (gNcons gNd0 gNnil))))
 (gSeq (gIfS (gB (gOp (hII fun i j => .bl (decide (i < j))) (gH 2) (gI (gC (.int 2)))))
 (gSetN 4 (gN (gCall (F__law_escaped ok CM tys GM GS GE GH GG_ GL GT) (gCons (gVar 0) (gCons (gVar 1) gNil)))))
 gPass)
 (gSeq (gFor (gIl (gVar 1)) (hName 5)
 (gIfS (gB (gOp hEq (gH 2) (gI (gC (.int 2)))))
 (gDPut 4 (gVar 5) (gPopAt 3 (gCall (drawF dc) (gCons (gVar 0) (gCons (gUn hLen (gH 3)) gNil)))))
 (gIfS (gB (gOp (hII fun i j => .bl (decide (j < i))) (gH 2) (gI (gC (.int 2)))))
 (gDPut 4 (gVar 5) (gIf (gB (gOp hEq (gI (gCall (drawF dc) (gCons (gVar 0) (gCons (gC (.int 3)) gNil)))) (gI (gC (.int 0))))) (gVar 5) (gCall (F__law_any_image ok CM tys GM GS GE GH GG_ GL GT) (gCons (gVar 0) (gCons (gVar 1) gNil)))))
 gPass)))
 (gSeq (gIfS (gB (gOp (hII fun i j => .bl (decide (j < i))) (gI (gCall (drawF dc) (gCons (gVar 0) (gCons (gC (.int 3)) gNil)))) (gI (gC (.int 0)))))
 (gRet (gVar 4))
 gPass)
 (gRet (gPl (gUnN hNdict (gI (gLc [5] (gIk (gVar 4)) (hName 5) (gB (gOp (hII fun i j => .bl (decide (j < i))) (gI (gCall (drawF dc) (gCons (gVar 0) (gCons (gC (.int 3)) gNil)))) (gI (gC (.int 0))))) (gTup (gCons (gVar 5) (gCons (gOp hDGet (gH 4) (gH 5)) gNil))))))))))))
abbrev F__law_table (ok : Addr → Bool) (CM : Addr) (tys : List Value) (GM : FI) (GS GE GH GG_ GL GT : FD) : FD := FDof 2 4 (g__law_table ok CM tys GM GS GE GH GG_ GL GT)
theorem ok__law_table {f : Addr} {fd : FuncData} (F : Fun K "_law_table" "_law_table" s__law_table f fd) (T : Nm mg) (hM : ∀ C, ok C = true → MisC K C)  (D__law_draw : DefOk P w K mg base "_law_draw" 1 ["_law_pen_here", "_law_many"] (drawF dc)) (D__law_escaped : DefOk P w K mg base "_law_escaped" 2 PS__law_escaped (F__law_escaped ok CM tys GM GS GE GH GG_ GL GT)) (D__law_any_image : DefOk P w K mg base "_law_any_image" 3 PS__law_any_image (F__law_any_image ok CM tys GM GS GE GH GG_ GL GT)) : FnD P w K mg base CX0 4 f fd PS__law_table (F__law_table ok CM tys GM GS GE GH GG_ GL GT) :=
  fnD_of (k := 3) F sc__law_table fun cdv A outer s H E hr => by
    have hu64 := hr.units
    have hu1 := units1 hr.units
    exact (dss_cons (ds_par3T (i := 2) (j := 3) (l := 4) (by rfl) sc__law_table.nd rfl rfl rfl ⟨by first | exact .inl rfl | exact .inr rfl, by first | exact .inl rfl | exact .inr rfl⟩ ⟨by first | exact .inl rfl | exact .inr rfl, by first | exact .inl rfl | exact .inr rfl⟩ ⟨by first | exact .inl rfl | exact .inr rfl, by first | exact .inl rfl | exact .inr rfl⟩ (dns_cons (dn_of (de_callD D__law_draw (hr.mono (by decide)) (by rfl) (da_cons (dv 0) (da_cons de_int da_nil)))) (dns_cons (dn_t1 (call_listW rfl) d1n_list (by rfl) T.list (by decide +kernel) (dhv 1)) (dns_cons dn_dict0 dns_nil))))
 (dss_cons (ds_if (dt_cmp op_lt d2_lt (dhv 2) (dh_i de_int) (nomark _))
 (dss_one (ds_setN (i := 4) sc__law_table.nd rfl (by first | exact .inl rfl | exact .inr rfl) (dn_of (de_callD D__law_escaped (hr.mono (by decide)) (by rfl) (da_cons (dv 0) (da_cons (dv 1) da_nil))))))
 dss_nil)
 (dss_cons (ds_for PassesOwn.never rfl (di_list (dv 1)) (dtg_name (i := 5) sc__law_table.nd rfl (by first | exact .inl rfl | exact .inr rfl))
 (dss_one (ds_if (dt_cmp (op_eqW hu64) d2_eq (dhv 2) (dh_i de_int) (nomark _))
 (dss_one (ds_dput (j := 4) hu1 (pv _) (dv 5) (de_popAt (i := 3) (pv _) (de_callD D__law_draw (hr.mono (by decide)) (by rfl) (da_cons (dv 0) (da_cons (de_b1 (id := "") call_lenW d1_len (by rfl) T.len PySem.boot_len (dhv 3)) da_nil))))))
 (dss_one (ds_if (dt_cmp op_gt d2_gt (dhv 2) (dh_i de_int) (nomark _))
 (dss_one (ds_dput (j := 4) hu1 (pv _) (dv 5) (de_if (dt_cmp (op_eqW hu64) d2_eq (dh_i (de_callD D__law_draw (hr.mono (by decide)) (by rfl) (da_cons (dv 0) (da_cons de_int da_nil)))) (dh_i de_int) (nomark _)) (dv 5) (de_callD D__law_any_image (hr.mono (by decide)) (by rfl) (da_cons (dv 0) (da_cons (dv 1) da_nil))))))
 dss_nil)))))
 (dss_cons (ds_if (dt_cmp op_gt d2_gt (dh_i (de_callD D__law_draw (hr.mono (by decide)) (by rfl) (da_cons (dv 0) (da_cons de_int da_nil)))) (dh_i de_int) (nomark _))
 (dss_one (ds_ret (dv 4)))
 dss_nil)
 (dss_one (ds_ret (de_pl (dn_t1 (call_dictW rfl hu64) d1n_dict (by rfl) T.dict (by decide +kernel) (dh_i (de_lc (own := [("_law_letter", 5)]) rfl sc__law_table.nd (di_keys (dv 4)) (blkOk_by (own := [("_law_letter", 5)]) (N := N__law_table) (sc := (defScope s__law_table)) (by decide +kernel)) (fun _ _ _ _ _ => dtc_name (i := 5) sc__law_table.nd rfl (Or.inl rfl)) (fun _ _ _ _ _ => dts_one (dt_cmp op_gt d2_gt (dh_i (de_callD D__law_draw (hr.mono (by decide)) (by rfl) (da_cons (dv 0) (da_cons de_int da_nil)))) (dh_i de_int) (nomark _))) (fun _ _ _ _ _ => (de_tup (da_cons (dv 5) (da_cons (de_dget hu1 (dhv 4) (dhv 5) (fun _ _ => rfl)) da_nil))))))))))))))
abbrev s__law_due : Stmt := top8 46
abbrev N__law_due : List Str := ["_law_shapes", "_law_stays", "_law_found", "_law_letter"]
abbrev PS__law_due : List Str := ["_law_shapes", "_law_stays"]
theorem sc__law_due : FnScope N__law_due PS__law_due (defScope s__law_due) := ⟨rfl, rfl, rfl, by decide +kernel, rfl, by decide +kernel, by decide +kernel⟩
def g__law_due (ok : Addr → Bool) (CM : Addr) (tys : List Value) (GM : FI) (GS GE GH GG_ GL GT : FD) : DSt → OutS := (gSeq (gSetN 2 (gUnN hNdict (gI (gLc [3] (gIs (gVar 1)) (hName 3) gYes (gTup (gCons (gVar 3) (gCons (gVar 3) gNil)))))))
 (gSeq (gFor (gIk (gVar 0)) (hName 3)
 (gDPut 2 (gVar 3) (gOp hDGet (gH 0) (gH 3))))
 (gRet (gVar 2))))
abbrev F__law_due (ok : Addr → Bool) (CM : Addr) (tys : List Value) (GM : FI) (GS GE GH GG_ GL GT : FD) : FD := FDof 2 2 (g__law_due ok CM tys GM GS GE GH GG_ GL GT)
theorem ok__law_due {f : Addr} {fd : FuncData} (F : Fun K "_law_due" "_law_due" s__law_due f fd) (T : Nm mg) (hM : ∀ C, ok C = true → MisC K C)   : FnD P w K mg base CX0 1 f fd PS__law_due (F__law_due ok CM tys GM GS GE GH GG_ GL GT) :=
  fnD_of (k := 0) F sc__law_due fun cdv A outer s H E hr => by
    have hu64 := hr.units
    have hu1 := units1 hr.units
    exact (dss_cons (ds_setN (i := 2) sc__law_due.nd rfl (by first | exact .inl rfl | exact .inr rfl) (dn_t1 (call_dictW rfl hu64) d1n_dict (by rfl) T.dict (by decide +kernel) (dh_i (de_lc (own := [("_law_letter", 3)]) rfl sc__law_due.nd (di_str (dv 1)) (blkOk_by (own := [("_law_letter", 3)]) (N := N__law_due) (sc := (defScope s__law_due)) (by decide +kernel)) (fun _ _ _ _ _ => dtc_name (i := 3) sc__law_due.nd rfl (Or.inl rfl)) (fun _ _ _ _ _ => dts_nil) (fun _ _ _ _ _ => (de_tup (da_cons (dv 3) (da_cons (dv 3) da_nil))))))))
 (dss_cons (ds_for PassesOwn.never rfl (di_keys (dv 0)) (dtg_name (i := 3) sc__law_due.nd rfl (by first | exact .inl rfl | exact .inr rfl))
 (dss_one (ds_dput (j := 2) hu1 (pv _) (dv 3) (de_dget hu1 (dhv 0) (dhv 3) (fun _ _ => rfl)))))
 (dss_one (ds_ret (dv 2)))))
abbrev s__law_right : Stmt := top8 47
abbrev N__law_right : List Str := ["_law_made", "_law_due_here", "_law_names", "_law_every", "_law_strange", "_law_letter", "_law_thing"]
abbrev PS__law_right : List Str := ["_law_made", "_law_due_here"]
theorem sc__law_right : FnScope N__law_right PS__law_right (defScope s__law_right) := ⟨rfl, rfl, rfl, by decide +kernel, rfl, by decide +kernel, by decide +kernel⟩
def g__law_right (ok : Addr → Bool) (CM : Addr) (tys : List Value) (GM : FI) (GS GE GH GG_ GL GT : FD) : DSt → OutS := (gSeq (gSet 2 (gUn hSorted (gI (gLc [5] (gIk (gVar 1)) (hName 5) gYes (gUn hStr (gH 5))))))
 (gSeq (gIfS (gOr (gB (gOp hNe (gI (gLc [5] (gIown ok "letters" (gVar 0)) (hName 5) gYes (gVar 5))) (gH 2))) (gOr (gB (gOp hNe (gI (gLc [5] (gIown ok "letters" (gVar 0)) (hName 5) gYes (gVar 5))) (gH 2))) (gB (gOp hNe (gI (fun s => ((gVar 0) s).bind (hLenO ok GL))) (gI (gUn hLen (gH 2)))))))
 (gRet (gC (.bl false)))
 gPass)
 (gSeq (gIfS (gB (gOp hNe (gI (gLc [5] (gIl (gVar 2)) (hName 5) gYes (gOpP (hIxO ok GG_) (gVar 0) (gVar 5)))) (gI (gLc [5] (gIl (gVar 2)) (hName 5) gYes (gOp hDGet (gH 1) (gH 5))))))
 (gRet (gC (.bl false)))
 gPass)
 (gSeq (gIfS (gB (gOp hNe (gI (gUn (hFld "changed" ok) (gH 0))) (gI (gUn hTuple (gI (gLc [5] (gIl (gVar 2)) (hName 5) (gB (gOp hNe (gI (gOp hDGet (gH 1) (gH 5))) (gH 5))) (gVar 5)))))))
 (gRet (gC (.bl false)))
 gPass)
 (gSeq (gSet 3 (gUn hListW (gI (gC (.str "abcdefghijklmnopqrstuvwxyz")))))
 (gSeq (gIfS (gB (gOp hNe (gI (gLc [5] (gIl (gVar 3)) (hName 5) gYes (gOpP (hInO false ok GH) (gVar 5) (gVar 0)))) (gI (gLc [5] (gIl (gVar 3)) (hName 5) gYes (gOp hDIn (gH 5) (gH 1))))))
 (gRet (gC (.bl false)))
 gPass)
 (gSeq (gSet 4 (gLst (gCons (gC .non) (gCons (gC (.int 0)) (gCons (gC (.bl true)) (gCons (gC (.str "")) (gCons (gC (.str "A")) (gCons (gC (.str "ab")) (gCons (gOp hAdd (gI (fun s => ((gC (.str "")) s).bind fun a s1 => match a with | .str z => gUn (hJoin (.str z)) (gH 2) s1 | _ => .no)) (gI (gC (.str "ab")))) (gCons (gTup (gCons (gC (.str "a")) gNil)) (gCons (gLst (gCons (gC (.str "a")) gNil)) (gCons (gPl gNd0) (gCons (gVar 1) gNil)))))))))))))
 (gSeq (gIfS (gB (gOp hNe (gI (gLc [6] (gIl (gVar 4)) (hName 6) (gB (gOpP (hInO false ok GH) (gVar 6) (gVar 0))) (gVar 6))) (gI (gLst gNil))))
 (gRet (gC (.bl false)))
 gPass)
 (gRet (gOp hEq (gI (fun s => ((gVar 0) s).bind (hStrO ok GT))) (gI (gOrT (fun s => ((gC (.str " ")) s).bind fun a s1 => match a with | .str z => gUn (hJoin (.str z)) (gI (gLc [5] (gIl (gVar 2)) (hName 5) gYes (gOp hAdd (gI (gOp hAdd (gH 5) (gI (gC (.str ":"))))) (gI (gOp hDGet (gH 1) (gH 5)))))) s1 | _ => .no) (gC (.str "-"))))))))))))))
abbrev F__law_right (ok : Addr → Bool) (CM : Addr) (tys : List Value) (GM : FI) (GS GE GH GG_ GL GT : FD) : FD := FDof 2 5 (g__law_right ok CM tys GM GS GE GH GG_ GL GT)
theorem ok__law_right {f : Addr} {fd : FuncData} (F : Fun K "_law_right" "_law_right" s__law_right f fd) (T : Nm mg) (hM : ∀ C, ok C = true → MisC K C) (DI : DunIt P w K mg base ok "letters" 1) (DH_ : Dun P w K mg base ok "__contains__" 1 ["self", "value"] GH) (DG : Dun P w K mg base ok "__getitem__" 2 ["self", "letter"] GG_) (DL : Dun P w K mg base ok "__len__" 1 ["self"] GL) (DT_ : Dun P w K mg base ok "__str__" 1 ["self"] GT)  : FnD P w K mg base CX0 4 f fd PS__law_right (F__law_right ok CM tys GM GS GE GH GG_ GL GT) :=
  fnD_of (k := 3) F sc__law_right fun cdv A outer s H E hr => by
    have hu64 := hr.units
    have hu1 := units1 hr.units
    exact (dss_cons (ds_set (i := 2) sc__law_right.nd rfl (by first | exact .inl rfl | exact .inr rfl) (de_b1 (id := "") cr_sortedS d1_sorted (by rfl) T.sorted (by decide +kernel) (dh_i (de_lc (own := [("_law_letter", 5)]) rfl sc__law_right.nd (di_keys (dv 1)) (blkOk_by (own := [("_law_letter", 5)]) (N := N__law_right) (sc := (defScope s__law_right)) (by decide +kernel)) (fun _ _ _ _ _ => dtc_name (i := 5) sc__law_right.nd rfl (Or.inl rfl)) (fun _ _ _ _ _ => dts_nil) (fun _ _ _ _ _ => (de_t1 SkE.call_str_str d1_str (by rfl) T.str (by decide +kernel) (dhv 5)))))))
 (dss_cons (ds_if (PW.pt (dw_or (dt_cmp (op_neW hu64) d2_ne (dh_i (de_lc (own := [("_law_letter", 5)]) rfl sc__law_right.nd (di_ownX DI (hr.mono (by decide)) (dv 0)) (blkOk_by (own := [("_law_letter", 5)]) (N := N__law_right) (sc := (defScope s__law_right)) (by decide +kernel)) (fun _ _ _ _ _ => dtc_name (i := 5) sc__law_right.nd rfl (Or.inl rfl)) (fun _ _ _ _ _ => dts_nil) (fun _ _ _ _ _ => (dv 5)))) (dhv 2) (nomark _)) (dw_or (dt_cmp (op_neW hu64) d2_ne (dh_i (de_lc (own := [("_law_letter", 5)]) rfl sc__law_right.nd (di_ownX DI (hr.mono (by decide)) (dv 0)) (blkOk_by (own := [("_law_letter", 5)]) (N := N__law_right) (sc := (defScope s__law_right)) (by decide +kernel)) (fun _ _ _ _ _ => dtc_name (i := 5) sc__law_right.nd rfl (Or.inl rfl)) (fun _ _ _ _ _ => dts_nil) (fun _ _ _ _ _ => (dv 5)))) (dhv 2) (nomark _)) (dw_or1 (dt_cmp (op_neW hu64) d2_ne (dh_i (de_lenX DL (hr.mono (by decide)) (by rfl) T.len (dv 0))) (dh_i (de_b1 (id := "") call_lenW d1_len (by rfl) T.len PySem.boot_len (dhv 2))) (nomark _))))))
 (dss_one (ds_ret de_bl))
 dss_nil)
 (dss_cons (ds_if (dt_cmp (op_neW hu64) d2_ne (dh_i (de_lc (own := [("_law_letter", 5)]) rfl sc__law_right.nd (di_list (dv 2)) (blkOk_by (own := [("_law_letter", 5)]) (N := N__law_right) (sc := (defScope s__law_right)) (by decide +kernel)) (fun _ _ _ _ _ => dtc_name (i := 5) sc__law_right.nd rfl (Or.inl rfl)) (fun _ _ _ _ _ => dts_nil) (fun _ _ _ _ _ => (de_ixX DG (hr.mono (by decide)) (dv 0) (dv 5))))) (dh_i (de_lc (own := [("_law_letter", 5)]) rfl sc__law_right.nd (di_list (dv 2)) (blkOk_by (own := [("_law_letter", 5)]) (N := N__law_right) (sc := (defScope s__law_right)) (by decide +kernel)) (fun _ _ _ _ _ => dtc_name (i := 5) sc__law_right.nd rfl (Or.inl rfl)) (fun _ _ _ _ _ => dts_nil) (fun _ _ _ _ _ => (de_dget hu1 (dhv 1) (dhv 5) (fun _ _ => rfl))))) (nomark _))
 (dss_one (ds_ret de_bl))
 dss_nil)
 (dss_cons (ds_if (dt_cmp (op_neW hu64) d2_ne (dh_i (de_fld (ok := ok) (fun C h => (hM C h).changed) (dhv 0))) (dh_i (de_t1 call_tuple_of d1_tuple (by rfl) T.tuple (by decide +kernel) (dh_i (de_lc (own := [("_law_letter", 5)]) rfl sc__law_right.nd (di_list (dv 2)) (blkOk_by (own := [("_law_letter", 5)]) (N := N__law_right) (sc := (defScope s__law_right)) (by decide +kernel)) (fun _ _ _ _ _ => dtc_name (i := 5) sc__law_right.nd rfl (Or.inl rfl)) (fun _ _ _ _ _ => dts_one (dt_cmp (op_neW hu64) d2_ne (dh_i (de_dget hu1 (dhv 1) (dhv 5) (fun _ _ => rfl))) (dhv 5) (nomark _))) (fun _ _ _ _ _ => (dv 5)))))) (nomark _))
 (dss_one (ds_ret de_bl))
 dss_nil)
 (dss_cons (ds_set (i := 3) sc__law_right.nd rfl (by first | exact .inl rfl | exact .inr rfl) (de_t1 (call_listW rfl) d1_listW (by rfl) T.list (by decide +kernel) (dh_i de_str)))
 (dss_cons (ds_if (dt_cmp (op_neW hu64) d2_ne (dh_i (de_lc (own := [("_law_letter", 5)]) rfl sc__law_right.nd (di_list (dv 3)) (blkOk_by (own := [("_law_letter", 5)]) (N := N__law_right) (sc := (defScope s__law_right)) (by decide +kernel)) (fun _ _ _ _ _ => dtc_name (i := 5) sc__law_right.nd rfl (Or.inl rfl)) (fun _ _ _ _ _ => dts_nil) (fun _ _ _ _ _ => (de_inX DH_ (hr.mono (by decide)) (dv 5) (dv 0))))) (dh_i (de_lc (own := [("_law_letter", 5)]) rfl sc__law_right.nd (di_list (dv 3)) (blkOk_by (own := [("_law_letter", 5)]) (N := N__law_right) (sc := (defScope s__law_right)) (by decide +kernel)) (fun _ _ _ _ _ => dtc_name (i := 5) sc__law_right.nd rfl (Or.inl rfl)) (fun _ _ _ _ _ => dts_nil) (fun _ _ _ _ _ => (de_din hu1 (dhv 5) (dhv 1))))) (nomark _))
 (dss_one (ds_ret de_bl))
 dss_nil)
 (dss_cons (ds_set (i := 4) sc__law_right.nd rfl (by first | exact .inl rfl | exact .inr rfl) (de_lst (da_cons de_non (da_cons de_int (da_cons de_bl (da_cons de_str (da_cons de_str (da_cons de_str (da_cons (de_op op_addW d2_add (dh_i (de_join de_str (dhv 2))) (dh_i de_str)) (da_cons (de_tup (da_cons de_str da_nil)) (da_cons (de_lst (da_cons de_str da_nil)) (da_cons (de_pl dn_dict0) (da_cons (dv 1) da_nil)))))))))))))
 (dss_cons (ds_if (dt_cmp (op_neW hu64) d2_ne (dh_i (de_lc (own := [("_law_thing", 6)]) rfl sc__law_right.nd (di_list (dv 4)) (blkOk_by (own := [("_law_thing", 6)]) (N := N__law_right) (sc := (defScope s__law_right)) (by decide +kernel)) (fun _ _ _ _ _ => dtc_name (i := 6) sc__law_right.nd rfl (Or.inl rfl)) (fun _ _ _ _ _ => dts_one (dt_inX DH_ (hr.mono (by decide)) (dv 6) (dv 0))) (fun _ _ _ _ _ => (dv 6)))) (dh_i (de_lst da_nil)) (nomark _))
 (dss_one (ds_ret de_bl))
 dss_nil)
 (dss_one (ds_ret (de_cmp (op_eqW hu64) d2_eq (dh_i (de_strX DT_ (hr.mono (by decide)) hu64 (by rfl) T.str (dv 0))) (dh_i (de_orT (de_join de_str (dh_i (de_lc (own := [("_law_letter", 5)]) rfl sc__law_right.nd (di_list (dv 2)) (blkOk_by (own := [("_law_letter", 5)]) (N := N__law_right) (sc := (defScope s__law_right)) (by decide +kernel)) (fun _ _ _ _ _ => dtc_name (i := 5) sc__law_right.nd rfl (Or.inl rfl)) (fun _ _ _ _ _ => dts_nil) (fun _ _ _ _ _ => (de_op op_addW d2_add (dh_i (de_op op_addW d2_add (dhv 5) (dh_i de_str))) (dh_i (de_dget hu1 (dhv 1) (dhv 5) (fun _ _ => rfl)))))))) (de_one de_str))) (nomark _))))))))))))
abbrev s__law_other_right : Stmt := top8 48
abbrev N__law_other_right : List Str := ["_law_pen_here", "_law_made", "_law_due_here", "_law_names", "_law_spot", "_law_fewer", "_law_other", "_law_letter"]
abbrev PS__law_other_right : List Str := ["_law_pen_here", "_law_made", "_law_due_here"]
theorem sc__law_other_right : FnScope N__law_other_right PS__law_other_right (defScope s__law_other_right) := ⟨rfl, rfl, rfl, by decide +kernel, rfl, by decide +kernel, by decide +kernel⟩
def g__law_other_right (ok : Addr → Bool) (CM : Addr) (tys : List Value) (GM : FI) (GS GE GH GG_ GL GT : FD) : DSt → OutS := (gSeq (gSet 3 (gUn hListW (gH 2)))
 (gSeq (gIfS (gOr (gB (gOpP (hEqO true ok tys GE) (gMakeK CM 1 0 fm1 GM (gCons (gPl (gUnN hNdict (gI (gLc [7] (gIl (gUn hRev (gH 3))) (hName 7) gYes (gTup (gCons (gVar 7) (gCons (gOp hDGet (gH 2) (gH 7)) gNil))))))) gNil) gNil) (gVar 1))) (gOr (gB (gOpP (hEqO false ok tys GE) (gVar 1) (gVar 2))) (gB (gOpP (hEqO false ok tys GE) (gVar 1) (fun s => ((gVar 1) s).bind (hStrO ok GT))))))
 (gRet (gC (.bl false)))
 gPass)
 (gSeq (gIfS (gB (gOp hEq2 (gH 2) (gI (gPl gNd0))))
 (gRet (gAndV (gOpP (hEqO false ok tys GE) (gVar 1) (gMakeK CM 1 0 fm1 GM (gCons (gPl gNd0) gNil) gNil)) (gOpP (hEqO true ok tys GE) (gVar 1) (gCall GS (gCons (gC (.str "q")) gNil)))))
 gPass)
 (gSeq (gSet 4 (gCall (F__law_pick ok CM tys GM GS GE GH GG_ GL GT) (gCons (gVar 0) (gCons (gVar 3) gNil))))
 (gSeq (gPar 5 6 (gNcons (gUnN hNdict (gH 2)) (gNcons (gUnN hNdict (gH 2)) gNnil)))
 (gSeq (gDrop (gDPop 5 (gVar 4)))
 (gSeq (gDPut 6 (gVar 4) (gCall (F__law_pick ok CM tys GM GS GE GH GG_ GL GT) (gCons (gVar 0) (gCons (gLst (gCons (gC (.str "qq")) (gCons (gC (.str "x")) (gCons (gC (.str "y")) (gCons (gC (.str "zzzz")) gNil))))) gNil))))
 (gSeq (gIfS (gB (gOp hNe (gI (gOpP (hEqO false ok tys GE) (gMakeK CM 1 0 fm1 GM (gCons (gVar 6) gNil) gNil) (gVar 1))) (gI (gOp hEq (gI (gOp hDGet (gH 6) (gH 4))) (gI (gOp hDGet (gH 2) (gH 4)))))))
 (gRet (gC (.bl false)))
 gPass)
 (gRet (gAndV (gOpP (hEqO true ok tys GE) (gMakeK CM 1 0 fm1 GM (gCons (gVar 5) gNil) gNil) (gVar 1)) (gAndV (gNotV (gOpP (hEqO false ok tys GE) (gVar 1) (gMakeK CM 1 0 fm1 GM (gCons (gVar 5) gNil) gNil))) (gOpP (hEqO true ok tys GE) (gVar 1) (gC (.int 0))))))))))))))
abbrev F__law_other_right (ok : Addr → Bool) (CM : Addr) (tys : List Value) (GM : FI) (GS GE GH GG_ GL GT : FD) : FD := FDof 3 5 (g__law_other_right ok CM tys GM GS GE GH GG_ GL GT)
theorem ok__law_other_right {f : Addr} {fd : FuncData} (F : Fun K "_law_other_right" "_law_other_right" s__law_other_right f fd) (T : Nm mg) (hM : ∀ C, ok C = true → MisC K C) (DM : MkAll P w K mg base "Misreading" CM 4 2 GM forms8) (DS : StOk P w K mg base "Misreading" "same" CM 6 ["letters"] GS) (DE_ : DunEq P w K mg base ok tys 1 ["self", "other"] GE) (DT_ : Dun P w K mg base ok "__str__" 1 ["self"] GT) (D__law_pick : DefOk P w K mg base "_law_pick" 2 PS__law_pick (F__law_pick ok CM tys GM GS GE GH GG_ GL GT)) : FnD P w K mg base CX0 7 f fd PS__law_other_right (F__law_other_right ok CM tys GM GS GE GH GG_ GL GT) :=
  fnD_of (k := 6) F sc__law_other_right fun cdv A outer s H E hr => by
    have hu64 := hr.units
    have hu1 := units1 hr.units
    exact (dss_cons (ds_set (i := 3) sc__law_other_right.nd rfl (by first | exact .inl rfl | exact .inr rfl) (de_t1 (call_listW rfl) d1_listW (by rfl) T.list (by decide +kernel) (dhv 2)))
 (dss_cons (ds_if (PW.pt (dw_or (dt_neX DE_ (hr.mono (by decide)) hu64 (de_mkX (na := 1) (ks := []) (gD := fm1) DM (by simp [forms8]) (hr.mono (by decide)) (by rfl) (da_cons (de_pl (dn_t1 (call_dictW rfl hu64) d1n_dict (by rfl) T.dict (by decide +kernel) (dh_i (de_lc (own := [("_law_letter", 7)]) rfl sc__law_other_right.nd (di_list (de_rev (dhv 3))) (blkOk_by (own := [("_law_letter", 7)]) (N := N__law_other_right) (sc := (defScope s__law_other_right)) (by decide +kernel)) (fun _ _ _ _ _ => dtc_name (i := 7) sc__law_other_right.nd rfl (Or.inl rfl)) (fun _ _ _ _ _ => dts_nil) (fun _ _ _ _ _ => (de_tup (da_cons (dv 7) (da_cons (de_dget hu1 (dhv 2) (dhv 7) (fun _ _ => rfl)) da_nil)))))))) da_nil) dk_nil') (dv 1)) (dw_or (dt_eqX DE_ (hr.mono (by decide)) hu64 (dv 1) (dv 2)) (dw_or1 (dt_eqX DE_ (hr.mono (by decide)) hu64 (dv 1) (de_strX DT_ (hr.mono (by decide)) hu64 (by rfl) T.str (dv 1)))))))
 (dss_one (ds_ret de_bl))
 dss_nil)
 (dss_cons (ds_if (dt_cmp (op_eq2 (Nat.lt_of_le_of_lt (Nat.le_add_right _ _) hu64)) d2_eq2 (dhv 2) (dh_i (de_pl dn_dict0)) (nomark _))
 (dss_one (ds_ret (de_and (de_eqX DE_ (hr.mono (by decide)) hu64 (dv 1) (de_mkX (na := 1) (ks := []) (gD := fm1) DM (by simp [forms8]) (hr.mono (by decide)) (by rfl) (da_cons (de_pl dn_dict0) da_nil) dk_nil')) (de_one (de_neX DE_ (hr.mono (by decide)) hu64 (dv 1) (de_stX DS (hr.mono (by decide)) (by rfl) (da_cons de_str da_nil)))))))
 dss_nil)
 (dss_cons (ds_set (i := 4) sc__law_other_right.nd rfl (by first | exact .inl rfl | exact .inr rfl) (de_callD D__law_pick (hr.mono (by decide)) (by rfl) (da_cons (dv 0) (da_cons (dv 3) da_nil))))
 (dss_cons (ds_par (i := 5) (j := 6) (by rfl) sc__law_other_right.nd rfl rfl (by decide) rfl rfl (dns_cons (dn_t1 (call_dictW rfl hu64) d1n_dict (by rfl) T.dict (by decide +kernel) (dhv 2)) (dns_cons (dn_t1 (call_dictW rfl hu64) d1n_dict (by rfl) T.dict (by decide +kernel) (dhv 2)) dns_nil)) (by rfl))
 (dss_cons (ds_expr (de_dpop (i := 5) (pv _) (dv 4) ⟨by rfl, by rfl, by rfl, by rfl⟩))
 (dss_cons (ds_dput (j := 6) hu1 (pv _) (dv 4) (de_callD D__law_pick (hr.mono (by decide)) (by rfl) (da_cons (dv 0) (da_cons (de_lst (da_cons de_str (da_cons de_str (da_cons de_str (da_cons de_str da_nil))))) da_nil))))
 (dss_cons (ds_if (dt_cmp (op_neW hu64) d2_ne (dh_i (de_eqX DE_ (hr.mono (by decide)) hu64 (de_mkX (na := 1) (ks := []) (gD := fm1) DM (by simp [forms8]) (hr.mono (by decide)) (by rfl) (da_cons (dv 6) da_nil) dk_nil') (dv 1))) (dh_i (de_cmp (op_eqW hu64) d2_eq (dh_i (de_dget hu1 (dhv 6) (dhv 4) (fun _ _ => rfl))) (dh_i (de_dget hu1 (dhv 2) (dhv 4) (fun _ _ => rfl))) (nomark _))) (nomark _))
 (dss_one (ds_ret de_bl))
 dss_nil)
 (dss_one (ds_ret (de_and (de_neX DE_ (hr.mono (by decide)) hu64 (de_mkX (na := 1) (ks := []) (gD := fm1) DM (by simp [forms8]) (hr.mono (by decide)) (by rfl) (da_cons (dv 5) da_nil) dk_nil') (dv 1)) (de_and (de_not (de_eqX DE_ (hr.mono (by decide)) hu64 (dv 1) (de_mkX (na := 1) (ks := []) (gD := fm1) DM (by simp [forms8]) (hr.mono (by decide)) (by rfl) (da_cons (dv 5) da_nil) dk_nil'))) (de_one (de_neX DE_ (hr.mono (by decide)) hu64 (dv 1) de_int))))))))))))))
end
end BD
namespace BD
open PySem PySem.Spec PyProof.Rows L2
abbrev sLaw : Stmt := top8 49
abbrev NLaw : List Str := ["_law_script", "_law_pen_here", "_law_turn", "_law_some", "_law_shapes", "_law_stays", "_law_due_here", "_law_told", "_law_made", "_law_twelve", "_law_k"]
theorem scLaw : FnScope NLaw ["_law_script"] (defScope sLaw) := ⟨rfl, rfl, rfl, by decide +kernel, rfl, by decide +kernel, by decide +kernel⟩
section
variable {P : Program} {w : World} {K : PySem.W.Frag} {mg : Str → Option Value} {base : Heap} {ok : Addr → Bool} {CM : Addr} {tys : List Value} {GM : FI} {GS GE GH GG_ GL GT : FD}
def g_law (ok : Addr → Bool) (CM : Addr) (tys : List Value) (GM : FI) (GS GE GH GG_ GL GT : FD) : DSt → OutS := (gSeq (gFor (gIr (gCons (gC (.int 5)) gNil)) (hName 2)
 (gSeq (gSet 3 (gCall (F__law_some_letters ok CM tys GM GS GE GH GG_ GL GT) (gCons (gVar 1) (gCons (gCall (drawF dc) (gCons (gVar 1) (gCons (gC (.int 13)) gNil))) gNil))))
 (gSeq (gSet 4 (gIf (gB (gOp hNe (gH 3) (gI (gLst gNil)))) (gCall (F__law_table ok CM tys GM GS GE GH GG_ GL GT) (gCons (gVar 1) (gCons (gVar 3) gNil))) (gPl gNd0)))
 (gSeq (gSet 5 (fun s => ((gC (.str "")) s).bind fun a s1 => match a with | .str z => gUn (hJoin (.str z)) (gI (gLc [10] (gIr (gCons (gCall (drawF dc) (gCons (gVar 1) (gCons (gC (.int 6)) gNil))) gNil)) (hName 10) (gB (gOp hNe (gH 3) (gI (gLst gNil)))) (gCall (F__law_pick ok CM tys GM GS GE GH GG_ GL GT) (gCons (gVar 1) (gCons (gVar 3) gNil))))) s1 | _ => .no))
 (gSeq (gPar 6 7 (gNcons (gN (gCall (F__law_due ok CM tys GM GS GE GH GG_ GL GT) (gCons (gVar 4) (gCons (gVar 5) gNil)))) (gNcons (gUnN hNdict (gH 4)) gNnil)))
 (gSeq (gSet 8 (gLend 7 (gMakeK CM 2 0 fm2 GM (gCons (gVar 7) (gCons (gVar 5) gNil)) gNil)))
 (gSeq (gDPut 7 (gC (.str "q")) (gC (.str "later")))
 (gSeq (gIfS (gOr (gNot (gB (gCall (F__law_right ok CM tys GM GS GE GH GG_ GL GT) (gCons (gVar 8) (gCons (gVar 6) gNil))))) (gNot (gB (gCall (F__law_other_right ok CM tys GM GS GE GH GG_ GL GT) (gCons (gVar 1) (gCons (gVar 8) (gCons (gVar 6) gNil)))))))
 (gRet (gC (.bl false)))
 gPass)
 (gIfS (gB (gOpP (hEqO true ok tys GE) (gVar 8) (gMakeK CM 0 2 fm0ki GM gNil (gCons (gVar 5) (gCons (gVar 4) gNil)))))
 (gRet (gC (.bl false)))
 gPass)))))))))
 (gSeq (gSet 9 (gMakeK CM 1 1 fm1k GM (gCons (gPl (gNdisp (((gC (.str "b")), (gC (.str "aaaa"))) :: []))) gNil) (gCons (gC (.str "aacdefghijkl")) gNil)))
 (gSeq (gIfS (gOr (gB (gOp hNe (gI (fun s => ((gVar 9) s).bind (hLenO ok GL))) (gI (gC (.int 12))))) (gOr (gB (gOp hNe (gI (gUn (hFld "changed" ok) (gH 9))) (gI (gTup (gCons (gC (.str "b")) gNil))))) (gB (gOpP (hEqO true ok tys GE) (gMakeK CM 0 1 fm0i GM gNil (gCons (gPl gNd0) gNil)) (gCallK 0 1 (fun _ es => es) GS gNil (gCons (gC (.str "")) gNil))))))
 (gRet (gC (.bl false)))
 gPass)
 (gRet (gAndV (gCall (F__law_right ok CM tys GM GS GE GH GG_ GL GT) (gCons (gCall GS (gCons (gC (.str "zaz")) gNil)) (gCons (gPl (gNdisp (((gC (.str "a")), (gC (.str "a"))) :: (((gC (.str "z")), (gC (.str "z"))) :: [])))) gNil))) (gOpP (hEqO false ok tys GE) (gCall GS (gCons (gC (.str "az")) gNil)) (gMakeK CM 2 0 fm2 GM (gCons (gPl gNd0) (gCons (gC (.str "za")) gNil)) gNil)))))))
def pen0 (ns : List Int) : Pen := ⟨ns, 0, 0, []⟩
def spPen (K : PySem.W.Frag) : Sp := fun vs H Q _ => ∃ (a : Addr) (ns : List Int), vs = [.ref a] ∧ SqL K H a (ns.map V.int) ∧ ns.length ≤ 63 ∧ ∀ H' p, PenOk p [p] H' (pen0 ns) → Q (.ref p) H'
theorem ok_pen {f : Addr} {fd : FuncData} {k : Nat} (F : Fun K "_law_pen" "_law_pen" sPen f fd) (T : Nm mg) : FnOk P w K mg base CX0 (k + 1) f fd ["_law_script"] (spPen K) := by
  refine F.ok scPen (fun vs H Q E h => ?_) (fun cdv A outer s H vs Q E hr h => ?_)
  · obtain ⟨a, ns, rfl, _⟩ := h
    rfl
  · obtain ⟨a, ns, rfl, hS, hlen, q⟩ := h
    refine ⟨_, pss_one (ps_ret (pe_lst (pa_cons (pe_callTy call_list_of (by rfl) T.list (by decide +kernel) (pa_cons (pe_slice sl_list (pv 0) po_none (po_some pe_int)) pa_nil)) (pa_cons pe_int (pa_cons pe_int pa_nil))))), ?_⟩
    refine ⟨.ref a, rfl, 63, rfl, a, _, rfl, hS, fun u nu => ?_⟩
    have ec : cutV (ns.map V.int) none (some 63) = ns.map V.int := by
      unfold cutV
      rw [HT.sIx_none, show HT.sIx (ns.map V.int).length (ns.map V.int).length (some 63) = min 63 (ns.map V.int).length from HT.sIx_nat _ _ 63]
      rw [List.length_map, Nat.min_eq_right hlen, Nat.sub_zero, List.drop_zero]
      exact List.take_of_length_le (by rw [List.length_map]; exact Nat.le_refl _)
    rw [ec]
    refine ⟨u, _, rfl, .inl (SqL.of upd_same), fun c nc => ?_⟩
    refine ⟨by show 3 ≤ sizeLine; decide, fun p np => ?_⟩
    have cp : c ≠ p := fun z => by
      rw [z] at np
      rw [upd_same] at np
      cases np
    exact q _ p ⟨⟨c, upd_same, by simpa using cp, by rw [upd_ne cp]; exact upd_same⟩, (show (0 : Int) ≤ 0 by decide), (show (0 : Int) ≤ 100000 by decide), (show (0 : Int) ≤ 0 by decide), (fun _ h => nomatch h), hlen⟩
def spLaw (K : PySem.W.Frag) : Sp := fun vs H Q _ => ∃ (a : Addr) (ns : List Int), vs = [.ref a] ∧ SqL K H a (ns.map V.int) ∧ ns.length ≤ 63 ∧ ∀ H', Q (.bl true) H'
theorem ok_law {f fp : Addr} {fd fdp : FuncData} (F : Fun K "law" "law" sLaw f fd) (T : Nm mg) (hM : ∀ C, ok C = true → MisC K C) (Fp : Fun K "_law_pen" "_law_pen" sPen fp fdp) (mp : mg "_law_pen" = some (.ref fp)) (bp : Binds K fdp ["_law_script"] []) (DM : MkAll P w K mg base "Misreading" CM 4 2 GM forms8) (DS : StOk P w K mg base "Misreading" "same" CM 6 ["letters"] GS) (DE_ : DunEq P w K mg base ok tys 1 ["self", "other"] GE) (DL : Dun P w K mg base ok "__len__" 1 ["self"] GL) (D__law_some_letters : DefOk P w K mg base "_law_some_letters" 2 PS__law_some_letters (F__law_some_letters ok CM tys GM GS GE GH GG_ GL GT)) (D__law_right : DefOk P w K mg base "_law_right" 4 PS__law_right (F__law_right ok CM tys GM GS GE GH GG_ GL GT)) (D__law_draw : DefOk P w K mg base "_law_draw" 1 ["_law_pen_here", "_law_many"] (drawF dc)) (D__law_table : DefOk P w K mg base "_law_table" 4 PS__law_table (F__law_table ok CM tys GM GS GE GH GG_ GL GT)) (D__law_due : DefOk P w K mg base "_law_due" 1 PS__law_due (F__law_due ok CM tys GM GS GE GH GG_ GL GT)) (D__law_pick : DefOk P w K mg base "_law_pick" 2 PS__law_pick (F__law_pick ok CM tys GM GS GE GH GG_ GL GT)) (D__law_other_right : DefOk P w K mg base "_law_other_right" 7 PS__law_other_right (F__law_other_right ok CM tys GM GS GE GH GG_ GL GT))
    (hlaw : ∀ ns : List Int, ns.length ≤ 63 → ∃ p', g_law ok CM tys GM GS GE GH GG_ GL GT ⟨.no :: .d .pen :: List.replicate 9 .no, pen0 ns⟩ = .rt (.bl true) p') : FnOk P w K mg base CX0 8 f fd ["_law_script"] (spLaw K) := by
  refine F.ok (k := 7) scLaw (fun vs H Q E h => ?_) (fun cdv A outer s H vs Q E hr h => ?_)
  · obtain ⟨a, ns, rfl, _⟩ := h
    rfl
  · obtain ⟨a, ns, rfl, hS, hlen, q⟩ := h
    have hu64 := hr.units
    have hu1 := units1 hr.units
    have der : DSs (cxOf CX0 P w K mg base NLaw "law" (defScope sLaw) f cdv A outer s H E).nox W0 ((defBody sLaw).drop 1) (g_law ok CM tys GM GS GE GH GG_ GL GT) := (dss_cons (ds_for PassesOwn.never rfl (di_range (by rfl) T.range (da_cons de_int da_nil)) (dtg_name (i := 2) scLaw.nd rfl (by first | exact .inl rfl | exact .inr rfl))
 (dss_cons (ds_set (i := 3) scLaw.nd rfl (by first | exact .inl rfl | exact .inr rfl) (de_callD D__law_some_letters (hr.mono (by decide)) (by rfl) (da_cons (dv 1) (da_cons (de_callD D__law_draw (hr.mono (by decide)) (by rfl) (da_cons (dv 1) (da_cons de_int da_nil))) da_nil))))
 (dss_cons (ds_set (i := 4) scLaw.nd rfl (by first | exact .inl rfl | exact .inr rfl) (de_if (dt_cmp (op_neW hu64) d2_ne (dhv 3) (dh_i (de_lst da_nil)) (nomark _)) (de_callD D__law_table (hr.mono (by decide)) (by rfl) (da_cons (dv 1) (da_cons (dv 3) da_nil))) (de_pl dn_dict0)))
 (dss_cons (ds_set (i := 5) scLaw.nd rfl (by first | exact .inl rfl | exact .inr rfl) (de_join de_str (dh_i (de_lc (own := [("_law_k", 10)]) rfl scLaw.nd (di_range (by rfl) T.range (da_cons (de_callD D__law_draw (hr.mono (by decide)) (by rfl) (da_cons (dv 1) (da_cons de_int da_nil))) da_nil)) (blkOk_by (own := [("_law_k", 10)]) (N := NLaw) (sc := (defScope sLaw)) (by decide +kernel)) (fun _ _ _ _ _ => dtc_name (i := 10) scLaw.nd rfl (Or.inl rfl)) (fun _ _ _ _ _ => dts_one (dt_cmp (op_neW hu64) d2_ne (dhv 3) (dh_i (de_lst da_nil)) (nomark _))) (fun _ _ _ _ _ => (de_callD D__law_pick (hr.mono (by decide)) (by rfl) (da_cons (dv 1) (da_cons (dv 3) da_nil))))))))
 (dss_cons (ds_par (i := 6) (j := 7) (by rfl) scLaw.nd rfl rfl (by decide) rfl rfl (dns_cons (dn_of (de_callD D__law_due (hr.mono (by decide)) (by rfl) (da_cons (dv 4) (da_cons (dv 5) da_nil)))) (dns_cons (dn_t1 (call_dictW rfl hu64) d1n_dict (by rfl) T.dict (by decide +kernel) (dhv 4)) dns_nil)) (by rfl))
 (dss_cons (ds_set (i := 8) scLaw.nd rfl (by first | exact .inl rfl | exact .inr rfl) (de_lend (i := 7) (de_mkX (na := 2) (ks := []) (gD := fm2) DM (by simp [forms8]) (hr.mono (by decide)) (by rfl) (da_cons (dv 7) (da_cons (dv 5) da_nil)) dk_nil')))
 (dss_cons (ds_dput (j := 7) hu1 (pv _) de_str de_str)
 (dss_cons (ds_if (PW.pt (dw_or (dt_not (dt_val (de_callD D__law_right (hr.mono (by decide)) (by rfl) (da_cons (dv 8) (da_cons (dv 6) da_nil))))) (dw_or1 (dt_not (dt_val (de_callD D__law_other_right (hr.mono (by decide)) (by rfl) (da_cons (dv 1) (da_cons (dv 8) (da_cons (dv 6) da_nil)))))))))
 (dss_one (ds_ret de_bl))
 dss_nil)
 (dss_one (ds_if (dt_neX DE_ (hr.mono (by decide)) hu64 (dv 8) (de_mkX0 (ks := ["keeps", "images"]) (gD := fm0ki) DM (by simp [forms8]) (hr.mono (by decide)) (by rfl) (dk_cons' (dv 5) (dk_cons' (dv 4) dk_nil'))))
 (dss_one (ds_ret de_bl))
 dss_nil))))))))))
 (dss_cons (ds_set (i := 9) scLaw.nd rfl (by first | exact .inl rfl | exact .inr rfl) (de_mkX (na := 1) (ks := ["keeps"]) (gD := fm1k) DM (by simp [forms8]) (hr.mono (by decide)) (by rfl) (da_cons (de_pl (dn_disp (DPs.cons de_str de_str DPs.nil) (by simp))) da_nil) (dk_cons' de_str dk_nil')))
 (dss_cons (ds_if (PW.pt (dw_or (dt_cmp (op_neW hu64) d2_ne (dh_i (de_lenX DL (hr.mono (by decide)) (by rfl) T.len (dv 9))) (dh_i de_int) (nomark _)) (dw_or (dt_cmp (op_neW hu64) d2_ne (dh_i (de_fld (ok := ok) (fun C h => (hM C h).changed) (dhv 9))) (dh_i (de_tup (da_cons de_str da_nil))) (nomark _)) (dw_or1 (dt_neX DE_ (hr.mono (by decide)) hu64 (de_mkX0 (ks := ["images"]) (gD := fm0i) DM (by simp [forms8]) (hr.mono (by decide)) (by rfl) (dk_cons' (de_pl dn_dict0) dk_nil')) (de_stX0 (ps := ["letters"]) DS (hr.mono (by decide)) (by rfl) (dk_cons' de_str dk_nil')))))))
 (dss_one (ds_ret de_bl))
 dss_nil)
 (dss_one (ds_ret (de_and (de_callD D__law_right (hr.mono (by decide)) (by rfl) (da_cons (de_stX DS (hr.mono (by decide)) (by rfl) (da_cons de_str da_nil)) (da_cons (de_pl (dn_disp (DPs.cons de_str de_str (DPs.cons de_str de_str DPs.nil)) (by simp))) da_nil))) (de_one (de_eqX DE_ (hr.mono (by decide)) hu64 (de_stX DS (hr.mono (by decide)) (by rfl) (da_cons de_str da_nil)) (de_mkX (na := 2) (ks := []) (gD := fm2) DM (by simp [forms8]) (hr.mono (by decide)) (by rfl) (da_cons (de_pl dn_dict0) (da_cons de_str da_nil)) dk_nil')))))))))
    refine ⟨_, pss_cons (ps_set (i := 1) scLaw.nd rfl (by first | exact .inl rfl | exact .inr rfl) (pe_call (ok_pen (k := 0) Fp T) (hr.mono (by decide)) (by rfl) mp Fp.kp bp .nil pass0 (pa_cons (pv 0) pa_nil))) der, ?_⟩
    refine ⟨.ref a, rfl, a, ns, rfl, hS, hlen, fun H' p hp => ?_⟩
    obtain ⟨p', e⟩ := hlaw ns hlen
    refine ⟨p, [], ⟨.no :: .d .pen :: List.replicate 9 .no, pen0 ns⟩, ?_, ?_⟩
    · have eo : OO p [] ⟨.no :: .d .pen :: List.replicate 9 .no, pen0 ns⟩ ((L2.start NLaw [.ref a]).set 1 (some (.ref p))) = [p] := rfl
      refine ⟨by rw [eo]; simp, ?_, by rw [eo]; exact hp, fun b hb => nomatch hb⟩
      rw [eo]
      exact .cons trivial (.cons ⟨.ref p, rfl, .pen⟩ (.cons trivial (.cons trivial (.cons trivial (.cons trivial (.cons trivial (.cons trivial (.cons trivial (.cons trivial (.cons trivial .nil))))))))))
    · rw [e]
      exact fun v H2 r => by
        have rv := r.val
        cases rv
        exact q _
end
end BD
namespace BD
open PySem PySem.Spec PyProof.Rows L2
def IsL (c : Nat) : Prop := 97 ≤ c ∧ c ≤ 122
def mk (l : List Nat) : Str := ⟨l.toArray⟩
def sg (c : Nat) : Str := ⟨#[c]⟩
theorem mem_letters {c : Nat} : c ∈ (("abcdefghijklmnopqrstuvwxyz" : Str)).cps.toList ↔ IsL c := by
  have e : (("abcdefghijklmnopqrstuvwxyz" : Str)).cps.toList = (List.range 26).map (· + 97) := by decide +kernel
  rw [e]
  simp only [List.mem_map, List.mem_range, IsL]
  constructor
  · rintro ⟨a, h, rfl⟩
    omega
  · intro h
    exact ⟨c - 97, by omega, by omega⟩
theorem szl {n : Nat} (h : n ≤ 2000) : n ≤ sizeLine := by
  rw [sizeLine_eq]
  omega
theorem sg_len (c : Nat) : (sg c).length = 1 := rfl
theorem sg_list (c : Nat) : (sg c).cps.toList = [c] := rfl
theorem one_sz : 1 ≤ sizeLine := by rw [sizeLine_eq]; decide
theorem eqI (a b : Int) : eqD (.int a) (.int b) = some (decide (a = b)) := by
  simp [eqD, toPy, SeqAt.shaped, PyData.canLay0, PyData.depth, PyData.eqv]
  rfl
theorem eqS {a b : Str} (ha : PyData.strOk a = true) (hb : PyData.strOk b = true) : eqD (.str a) (.str b) = some (decide (a = b)) := by
  simp [eqD, toPy, SeqAt.shaped, PyData.canLay0, PyData.depth, PyData.eqv, ha, hb]
  by_cases h : a = b <;> simp [h]
theorem is_letter_ok {cs : List Addr} {c : Nat} {p : Pen} (h : IsL c) : F_is_letter cs [.str (sg c)] p = .ok (.bl true) p := by
  have h3 : c ∈ (("abcdefghijklmnopqrstuvwxyz" : Str)).cps.toList := mem_letters.mpr h
  simp [F_is_letter, FDof, run, g_is_letter, gRet, gAndV, gUn, gH, look, hIsi, kitT, tyD, bTys, subTy, Out.bind, Out.bindS, gOp, gI, gC, hLen, sg_len, one_sz, hInT, hEq, eqI, sg_list, h3]
theorem loop_letters {cs : List Addr} {x : DV} {y : DV} {p : Pen} : ∀ (l : List Nat) (y : DV), (∀ c ∈ l, IsL c) → ∃ y', gLoop (hName 1) (gIfS (gB (gOp (hInT true) (gH 1) (gI (gC (.str "abcdefghijklmnopqrstuvwxyz"))))) (gRet (gC (.bl false))) gPass) (l.map fun c => .str (sg c)) ⟨[x, y], p⟩ = .nx ⟨[x, y'], p⟩
  | [], y, _ => ⟨y, rfl⟩
  | c :: l, y, h => by
    have h3 : c ∈ (("abcdefghijklmnopqrstuvwxyz" : Str)).cps.toList := mem_letters.mpr (h c (List.mem_cons_self ..))
    obtain ⟨y', e⟩ := loop_letters (cs := cs) (x := x) (y := y) (p := p) l (.d (.str (sg c))) fun d hd => h d (List.mem_cons_of_mem _ hd)
    refine ⟨y', ?_⟩
    rw [List.map_cons, gLoop]
    simp [hName, gIfS, gB, gOp, gH, gI, gC, look, hInT, Out.bind, Out.bindS, sg_list, h3, gPass, e]
end BD
namespace BD
open PySem PySem.Spec PyProof.Rows L2
abbrev EX := Addr → List (Str × Dat) → Pen → Prop
/-- the types lean on what is asked, so that simp leaves that as it is -/
abbrev OutW {α : Type} (Q : α → DSt → Prop) (E : EX) : Type := Out α
abbrev OutSW (N : DSt → Prop) (R : Dat → Pen → Prop) (E : EX) : Type := OutS
abbrev OutFW (R : Dat → Pen → Prop) (E : EX) : Type := OutF
def WE {α : Type} (Q : α → DSt → Prop) (E : EX) (o : OutW Q E) : Prop := match o with
  | .ok a s => Q a s
  | .ex C fs p => E C fs p
  | .no => False
def WS (N : DSt → Prop) (R : Dat → Pen → Prop) (E : EX) (o : OutSW N R E) : Prop := match o with
  | .nx s => N s
  | .rt d p => R d p
  | .ex C fs p => E C fs p
  | .bk _ => False
  | .ct _ => False
  | .no => False
def WF (R : Dat → Pen → Prop) (E : EX) (o : OutFW R E) : Prop := match o with
  | .ok d p => R d p
  | .ex C fs p => E C fs p
  | .no => False
def WI (R : List (Str × Dat) → Pen → Prop) (E : EX) : OutI → Prop
  | .ok d p => R d p
  | .ex C fs p => E C fs p
  | .no => False
def X0 : EX := fun _ _ _ => False
section
variable {α β : Type} {Q : α → DSt → Prop} {E : EX} {N : DSt → Prop} {R : Dat → Pen → Prop} {s : DSt} {p : Pen}
theorem WE_ok {a : α} : WE Q E (.ok a s) = Q a s := rfl
theorem WE_ex {C : Addr} {fs : List (Str × Dat)} : WE Q E (.ex C fs p) = E C fs p := rfl
theorem WE_mk {Q : α → DSt → Prop} {E : EX} {o o' : Out α} (e : o = o') (h : WE Q E o') : WE Q E o := by rw [e]; exact h
theorem WE_bind {o : Out β} {k : β → DSt → Out α} : WE Q E (o.bind k) = WE (fun a s => WE Q E (k a s)) E o := by cases o <;> rfl
theorem WE_ifno {c : Prop} [Decidable c] {a : Out α} : WE Q E (if c then a else .no) = (c ∧ WE Q E a) := by
  by_cases h : c
  · simp [h]
  · simp [h, WE]
theorem WS_mk {o o' : OutS} (e : o = o') (h : WS N R E o') : WS N R E o := by rw [e]; exact h
theorem WS_nx : WS N R E (.nx s) = N s := rfl
theorem WS_rt {d : Dat} : WS N R E (.rt d p) = R d p := rfl
theorem WS_ex {C : Addr} {fs : List (Str × Dat)} : WS N R E (.ex C fs p) = E C fs p := rfl
theorem WS_bindS {o : Out β} {k : β → DSt → OutS} : WS N R E (o.bindS k) = WE (fun a s => WS N R E (k a s)) E o := by cases o <;> rfl
theorem WS_ifno {c : Prop} [Decidable c] {a : OutS} : WS N R E (if c then a else .no) = (c ∧ WS N R E a) := by
  by_cases h : c
  · simp [h]
  · simp [h, WS]
theorem WS_seq {g h : DSt → OutS} : WS N R E (gSeq g h s) = WS (fun s1 => WS N R E (h s1)) R E (g s) := by
  unfold gSeq
  cases g s <;> rfl
theorem WF_ok {d : Dat} : WF R E (.ok d p) = R d p := rfl
theorem WF_ex {C : Addr} {fs : List (Str × Dat)} : WF R E (.ex C fs p) = E C fs p := rfl
theorem WF_def {n m : Nat} {g : DSt → OutS} {ds : List Dat} : (ds.length = n ∧ WS (fun s => R .non s.pen) R X0 (g ⟨ds.map .d ++ List.replicate m .no, p⟩)) → WF R E (FDof n m g ds p) := by
  rintro ⟨hl, h⟩
  unfold FDof run
  rw [if_pos hl]
  cases e : g ⟨ds.map .d ++ List.replicate m .no, p⟩ <;> rw [e] at h <;> first | exact h | exact h.elim
theorem WF_eq {o : OutF} {d : Dat} {q : Pen} (e : o = .ok d q) (h : R d q) : WF R E o := by rw [e]; exact h
theorem WE_C {d : Dat} {Q : Dat → DSt → Prop} : WE Q E (gC d s) = Q d s := rfl
theorem WE_var {i : Nat} {Q : Dat → DSt → Prop} : WE Q E (gVar i s) = (match s.env[i]? with
  | some (.d x) => Q x s
  | some (.ol xs) => Q (.lst xs) ⟨s.env.set i (.d (.lst xs)), s.pen⟩
  | some (.od ks) => Q (.dic ks) ⟨s.env.set i (.d (.dic ks)), s.pen⟩
  | some (.oi _ C fs) => Q (.ins C fs) ⟨s.env.set i (.d (.ins C fs)), s.pen⟩
  | _ => False) := by
  unfold gVar
  cases s.env[i]? with
  | none => rfl
  | some w => cases w <;> rfl
theorem WE_h {i : Nat} {Q : Nat ⊕ Dat → DSt → Prop} : WE Q E (gH i s) = (match s.env[i]? with
  | some (.d x) => Q (.inr x) s
  | some (.ol _) => Q (.inl i) s
  | some (.od _) => Q (.inl i) s
  | some (.oi _ _ _) => Q (.inl i) s
  | _ => False) := by
  unfold gH
  cases s.env[i]? with
  | none => rfl
  | some w => cases w <;> rfl
theorem WE_i {g : DSt → Out Dat} {Q : Nat ⊕ Dat → DSt → Prop} : WE Q E (gI g s) = WE (fun d s1 => Q (.inr d) s1) E (g s) := by
  unfold gI
  rw [WE_bind]
  rfl
theorem WE_nil {Q : List Dat → DSt → Prop} : WE Q E (gNil s) = Q [] s := rfl
theorem WE_cons {g : DSt → Out Dat} {gs : DSt → Out (List Dat)} {Q : List Dat → DSt → Prop} : WE Q E (gCons g gs s) = WE (fun d s1 => WE (fun ds s2 => Q (d :: ds) s2) E (gs s1)) E (g s) := by
  unfold gCons
  rw [WE_bind]
  congr
  funext d s1
  rw [WE_bind]
  rfl
theorem WE_lst {g : DSt → Out (List Dat)} {Q : Dat → DSt → Prop} : WE Q E (gLst g s) = WE (fun xs s1 => xs.length ≤ sizeLine ∧ Q (.lst xs) s1) E (g s) := by
  unfold gLst
  rw [WE_bind]
  congr
  funext d s1
  rw [WE_ifno]
  rfl
theorem WE_tup {g : DSt → Out (List Dat)} {Q : Dat → DSt → Prop} : WE Q E (gTup g s) = WE (fun xs s1 => xs.length ≤ sizeLine ∧ Q (.tup xs) s1) E (g s) := by
  unfold gTup
  rw [WE_bind]
  congr
  funext d s1
  rw [WE_ifno]
  rfl
def opK (h : Dat → Dat → DSt → Out Dat) (Q : Dat → DSt → Prop) (E : EX) (s : DSt) : Option Dat → Option Dat → Prop
  | some dx, some dy => WE Q E (h dx dy s)
  | _, _ => False
theorem WE_op {h : Dat → Dat → DSt → Out Dat} {ga gb : DSt → Out (Nat ⊕ Dat)} {Q : Dat → DSt → Prop} : WE Q E (gOp h ga gb s) = WE (fun x s1 => WE (fun y s2 => opK h Q E s2 (look s2 x) (look s2 y)) E (gb s1)) E (ga s) := by
  unfold gOp
  rw [WE_bind]
  congr
  funext d s1
  rw [WE_bind]
  congr
  funext y s2
  cases look s2 d <;> cases look s2 y <;> rfl
theorem opK_some {h : Dat → Dat → DSt → Out Dat} {dx dy : Dat} {Q : Dat → DSt → Prop} : opK h Q E s (some dx) (some dy) = WE Q E (h dx dy s) := rfl
def unK {α : Type} (h : Dat → DSt → Out α) (Q : α → DSt → Prop) (E : EX) (s : DSt) : Option Dat → Prop
  | some dx => WE Q E (h dx s)
  | _ => False
theorem unK_some {h : Dat → DSt → Out α} {dx : Dat} : unK h Q E s (some dx) = WE Q E (h dx s) := rfl
theorem WE_un {h : Dat → DSt → Out Dat} {ga : DSt → Out (Nat ⊕ Dat)} {Q : Dat → DSt → Prop} : WE Q E (gUn h ga s) = WE (fun x s1 => unK h Q E s1 (look s1 x)) E (ga s) := by
  unfold gUn
  rw [WE_bind]
  congr
  funext d s1
  cases look s1 d <;> rfl
theorem WE_unN {h : Dat → DSt → Out DV} {ga : DSt → Out (Nat ⊕ Dat)} {Q : DV → DSt → Prop} : WE Q E (gUnN h ga s) = WE (fun x s1 => unK h Q E s1 (look s1 x)) E (ga s) := by
  unfold gUnN
  rw [WE_bind]
  congr
  funext d s1
  cases look s1 d <;> rfl
def bK (Q : Bool → DSt → Prop) (s : DSt) : Dat → Prop
  | .bl b => Q b s
  | _ => False
theorem bK_bl {Q : Bool → DSt → Prop} {b : Bool} : bK Q s (.bl b) = Q b s := rfl
theorem WE_b {g : DSt → Out Dat} {Q : Bool → DSt → Prop} : WE Q E (gB g s) = WE (fun d s1 => bK Q s1 d) E (g s) := by
  unfold gB
  rw [WE_bind]
  congr
  funext d s1
  cases d <;> rfl
theorem WE_not {g : DSt → Out Bool} {Q : Bool → DSt → Prop} : WE Q E (gNot g s) = WE (fun b s1 => Q (!b) s1) E (g s) := by
  unfold gNot
  rw [WE_bind]
  rfl
theorem WE_and {g h : DSt → Out Bool} {Q : Bool → DSt → Prop} : WE Q E (gAnd g h s) = WE (fun b s1 => if b = true then WE Q E (h s1) else Q false s1) E (g s) := by
  unfold gAnd
  rw [WE_bind]
  congr
  funext b s1
  cases b <;> rfl
theorem WE_or {g h : DSt → Out Bool} {Q : Bool → DSt → Prop} : WE Q E (gOr g h s) = WE (fun b s1 => if b = true then Q true s1 else WE Q E (h s1)) E (g s) := by
  unfold gOr
  rw [WE_bind]
  congr
  funext b s1
  cases b <;> rfl
theorem WE_ite {c : DSt → Out Bool} {g h : DSt → Out Dat} {Q : Dat → DSt → Prop} : WE Q E (gIf c g h s) = WE (fun b s1 => if b = true then WE Q E (g s1) else WE Q E (h s1)) E (c s) := by
  unfold gIf
  rw [WE_bind]
  congr
  funext b s1
  cases b <;> rfl
theorem WE_andV {g h : DSt → Out Dat} {Q : Dat → DSt → Prop} : WE Q E (gAndV g h s) = WE (fun d s1 => bK (fun b s1 => if b = true then WE Q E (h s1) else Q (.bl false) s1) s1 d) E (g s) := by
  unfold gAndV
  rw [WE_bind]
  congr
  funext d s1
  cases d with
  | bl b => cases b <;> rfl
  | _ => rfl
theorem WE_orV {g h : DSt → Out Dat} {Q : Dat → DSt → Prop} : WE Q E (gOrV g h s) = WE (fun d s1 => bK (fun b s1 => if b = true then Q (.bl true) s1 else WE Q E (h s1)) s1 d) E (g s) := by
  unfold gOrV
  rw [WE_bind]
  congr
  funext d s1
  cases d with
  | bl b => cases b <;> rfl
  | _ => rfl
theorem WE_notV {g : DSt → Out Dat} {Q : Dat → DSt → Prop} : WE Q E (gNotV g s) = WE (fun d s1 => bK (fun b s1 => Q (.bl (!b)) s1) s1 d) E (g s) := by
  unfold gNotV
  rw [WE_bind]
  congr
  funext d s1
  cases d <;> rfl
theorem WS_set {i : Nat} {g : DSt → Out Dat} : WS N R E (gSet i g s) = WE (fun d s1 => N ⟨s1.env.set i (.d d), s1.pen⟩) E (g s) := by
  unfold gSet
  rw [WS_bindS]
  rfl
theorem WS_setN {i : Nat} {g : DSt → Out DV} : WS N R E (gSetN i g s) = WE (fun d s1 => N ⟨s1.env.set i d, s1.pen⟩) E (g s) := by
  unfold gSetN
  rw [WS_bindS]
  rfl
theorem WS_ret {g : DSt → Out Dat} : WS N R E (gRet g s) = WE (fun d s1 => R d s1.pen) E (g s) := by
  unfold gRet
  rw [WS_bindS]
  rfl
theorem WS_retN : WS N R E (gRetN s) = R .non s.pen := rfl
theorem WS_drop {g : DSt → Out Dat} : WS N R E (gDrop g s) = WE (fun d s1 => N s1) E (g s) := by
  unfold gDrop
  rw [WS_bindS]
  rfl
theorem WS_ifS {c : DSt → Out Bool} {g h : DSt → OutS} : WS N R E (gIfS c g h s) = WE (fun b s1 => if b = true then WS N R E (g s1) else WS N R E (h s1)) E (c s) := by
  unfold gIfS
  rw [WS_bindS]
  congr
  funext b s1
  cases b <;> rfl
theorem WS_pass : WS N R E (gPass s) = N s := rfl
theorem WS_never : WS N R E (gNever s) = False := rfl
def pK (N : DSt → Prop) (i j : Nat) (s : DSt) : List DV → Prop
  | [a, b] => N ⟨(s.env.set i a).set j b, s.pen⟩
  | _ => False
theorem WE_call {G : FD} {ga : DSt → Out (List Dat)} {Q : Dat → DSt → Prop} : WE Q E (gCall G ga s) = WE (fun ds s1 => WF (fun d q => Q d ⟨s1.env, q⟩) E (G ds s1.pen)) E (ga s) := by
  unfold gCall
  rw [WE_bind]
  congr
  funext ds s1
  cases G ds s1.pen <;> rfl
theorem WE_callO {G : FD} {ds : List Dat} {Q : Dat → DSt → Prop} : WE Q E (callO G ds s) = WF (fun d q => Q d ⟨s.env, q⟩) E (G ds s.pen) := by
  unfold callO
  cases G ds s.pen <;> rfl
theorem WE_opP {h : Dat → Dat → DSt → Out Dat} {ga gb : DSt → Out Dat} {Q : Dat → DSt → Prop} : WE Q E (gOpP h ga gb s) = WE (fun x s1 => WE (fun y s2 => WE Q E (h x y s2)) E (gb s1)) E (ga s) := by
  unfold gOpP
  rw [WE_bind]
  congr
  funext d s1
  rw [WE_bind]
theorem WE_n {g : DSt → Out Dat} {Q : DV → DSt → Prop} : WE Q E (gN g s) = WE (fun d s1 => Q (.d d) s1) E (g s) := by
  unfold gN
  rw [WE_bind]
  rfl
theorem WE_nl {g : DSt → Out (List Dat)} {Q : DV → DSt → Prop} : WE Q E (gNl g s) = WE (fun xs s1 => xs.length ≤ sizeLine ∧ Q (.ol xs) s1) E (g s) := by
  unfold gNl
  rw [WE_bind]
  congr
  funext d s1
  rw [WE_ifno]
  rfl
theorem WE_nnil {Q : List DV → DSt → Prop} : WE Q E (gNnil s) = Q [] s := rfl
theorem WE_ncons {g : DSt → Out DV} {gs : DSt → Out (List DV)} {Q : List DV → DSt → Prop} : WE Q E (gNcons g gs s) = WE (fun d s1 => WE (fun ds s2 => Q (d :: ds) s2) E (gs s1)) E (g s) := by
  unfold gNcons
  rw [WE_bind]
  congr
  funext d s1
  rw [WE_bind]
  rfl
theorem WE_nd0 {Q : DV → DSt → Prop} : WE Q E (gNd0 s) = Q (.od []) s := rfl
def plK (Q : Dat → DSt → Prop) (s : DSt) : DV → Prop
  | .d x => Q x s
  | .ol xs => Q (.lst xs) s
  | .od ks => Q (.dic ks) s
  | .oi _ C fs => Q (.ins C fs) s
  | .no => False
theorem plK_d {Q : Dat → DSt → Prop} {x : Dat} : plK Q s (.d x) = Q x s := rfl
theorem plK_ol {Q : Dat → DSt → Prop} {x : List Dat} : plK Q s (.ol x) = Q (.lst x) s := rfl
theorem plK_od {Q : Dat → DSt → Prop} {x : List (Key × Dat)} : plK Q s (.od x) = Q (.dic x) s := rfl
theorem WE_pl {g : DSt → Out DV} {Q : Dat → DSt → Prop} : WE Q E (gPl g s) = WE (fun d s1 => plK Q s1 d) E (g s) := by
  unfold gPl
  rw [WE_bind]
  congr
  funext d s1
  cases d <;> rfl
theorem WS_for {gi : DSt → Out (List Dat)} {h : Dat → DSt → Option DSt} {b : DSt → OutS} : WS N R E (gFor gi h b s) = WE (fun items s1 => WS N R E (gLoop h b items s1)) E (gi s) := by
  unfold gFor
  rw [WS_bindS]
/-- a loop by its invariant: of what is left, and the state -/
theorem WS_loop {h : Dat → DSt → Option DSt} {b : DSt → OutS} (I : List Dat → DSt → Prop) : ∀ (items : List Dat) (s : DSt), I items s → (∀ d ds s, I (d :: ds) s → ∃ s1, h d s = some s1 ∧ WS (I ds) R E (b s1)) → (∀ s, I [] s → N s) → WS N R E (gLoop h b items s)
  | [], s, h0, _, hn => hn s h0
  | d :: ds, s, h0, st, hn => by
    obtain ⟨s1, e1, h1⟩ := st d ds s h0
    cases e2 : b s1 with
    | nx s2 =>
      rw [e2] at h1
      exact WS_mk (o' := gLoop h b ds s2) (by rw [gLoop, e1]; simp only [e2]) (WS_loop I ds s2 h1 st hn)
    | rt d p =>
      rw [e2] at h1
      exact WS_mk (o' := .rt d p) (by rw [gLoop, e1]; simp only [e2]) h1
    | ex C fs p =>
      rw [e2] at h1
      exact WS_mk (o' := .ex C fs p) (by rw [gLoop, e1]; simp only [e2]) h1
    | bk s => rw [e2] at h1; exact h1.elim
    | ct s => rw [e2] at h1; exact h1.elim
    | no => rw [e2] at h1; exact h1.elim
end
end BD
namespace BD
open PySem PySem.Spec PyProof.Rows L2
theorem seq_nx {g h : DSt → OutS} {s s1 : DSt} (e : g s = .nx s1) : gSeq g h s = h s1 := by
  simp only [gSeq, e]
theorem seq_rt {g h : DSt → OutS} {s : DSt} {d : Dat} {p : Pen} (e : g s = .rt d p) : gSeq g h s = .rt d p := by
  simp only [gSeq, e]
theorem fdof {n m : Nat} {g : DSt → OutS} {ds : List Dat} {p p' : Pen} {d : Dat} (hl : ds.length = n) (e : g ⟨ds.map .d ++ List.replicate m .no, p⟩ = .rt d p') : FDof n m g ds p = .ok d p' := by
  simp only [FDof, if_pos hl, run, e]
theorem fdof0 {n m : Nat} {g : DSt → OutS} {ds : List Dat} {p : Pen} {s : DSt} (hl : ds.length = n) (e : g ⟨ds.map .d ++ List.replicate m .no, p⟩ = .nx s) : FDof n m g ds p = .ok .non s.pen := by
  simp only [FDof, if_pos hl, run, e]
theorem wipe_set (v : Nat) (d : DV) (env : List DV) : wipeE [v] (env.set v d) = wipeE [v] env := by
  apply List.ext_getElem?
  intro i
  simp only [wipeE, List.getElem?_mapIdx, List.getElem?_set]
  by_cases h : v = i
  · subst h
    by_cases h2 : v < env.length
    · simp [h2]
    · simp [h2]
  · simp [h]
theorem wipe_idem (v : Nat) (env : List DV) : wipeE [v] (wipeE [v] env) = wipeE [v] env := by
  apply List.ext_getElem?
  intro i
  simp only [wipeE, List.getElem?_mapIdx]
  cases env[i]? with
  | none => rfl
  | some x => by_cases h : i = v <;> simp [h]
theorem back_wipe (v : Nat) (env : List DV) : backE [v] env (wipeE [v] env) = env := by
  apply List.ext_getElem?
  intro i
  simp only [backE, wipeE, List.getElem?_mapIdx]
  cases h : env[i]? with
  | none => simp
  | some x =>
    by_cases q : v = i
    · subst q
      simp [List.getD, h]
    · simp [Ne.symm q]
theorem plain_set (v : Nat) (d : Dat) (env : List DV) : plainAt [v] (env.set v (.d d)) = true := by
  simp only [plainAt, List.all_cons, List.all_nil, Bool.and_true]
  by_cases h : v < env.length
  · simp [List.getD, List.getElem?_set, h, DV.isO]
  · simp [List.getD, List.getElem?_set, h, DV.isO]
/-- all items alike in acts that leave the state -/
theorem lcl_pure {v : Nat} {t : DSt → Out Bool} {e : DSt → Out Dat} {env : List DV} {p : Pen} (b : Dat → Bool) (f : Dat → Dat) : ∀ (items acc : List Dat), acc.length + items.length ≤ sizeLine →
    (∀ d ∈ items, t ⟨(wipeE [v] env).set v (.d d), p⟩ = .ok (b d) ⟨(wipeE [v] env).set v (.d d), p⟩ ∧ (b d = true → e ⟨(wipeE [v] env).set v (.d d), p⟩ = .ok (f d) ⟨(wipeE [v] env).set v (.d d), p⟩)) →
    gLcL [v] (hName v) t e items acc ⟨wipeE [v] env, p⟩ = .ok (acc ++ (items.filter b).map f) ⟨wipeE [v] env, p⟩
  | [], acc, _, _ => by simp [gLcL]
  | d :: ds, acc, hl, h => by
    obtain ⟨h1, h2⟩ := h d (List.mem_cons_self ..)
    rw [List.length_cons] at hl
    rw [gLcL]
    simp only [hName, h1]
    cases hb : b d with
    | true =>
      simp only [h2 hb, plain_set, wipe_set, wipe_idem]
      rw [if_pos ⟨by omega, trivial⟩, lcl_pure b f ds (acc ++ [f d]) (by rw [List.length_append]; simp; omega) fun x hx => h x (List.mem_cons_of_mem _ hx)]
      simp [List.filter_cons, hb]
    | false =>
      simp only [plain_set, wipe_set, wipe_idem, if_true]
      rw [lcl_pure b f ds acc (by omega) fun x hx => h x (List.mem_cons_of_mem _ hx)]
      simp [List.filter_cons, hb]
theorem lc_pure {v : Nat} {gi : DSt → Out (List Dat)} {t : DSt → Out Bool} {e : DSt → Out Dat} {s : DSt} {env : List DV} {p : Pen} {items : List Dat} (b : Dat → Bool) (f : Dat → Dat) (hi : gi s = .ok items ⟨env, p⟩) (hp : plainAt [v] env = true) (hl : items.length ≤ sizeLine)
    (h : ∀ d ∈ items, t ⟨(wipeE [v] env).set v (.d d), p⟩ = .ok (b d) ⟨(wipeE [v] env).set v (.d d), p⟩ ∧ (b d = true → e ⟨(wipeE [v] env).set v (.d d), p⟩ = .ok (f d) ⟨(wipeE [v] env).set v (.d d), p⟩)) :
    gLc [v] gi (hName v) t e s = .ok (.lst ((items.filter b).map f)) ⟨env, p⟩ := by
  simp only [gLc, gLcA, hi, Out.bind, hp, if_true, lcl_pure b f items [] (by simpa using hl) h, back_wipe, List.nil_append]
theorem lc_map {v : Nat} {gi : DSt → Out (List Dat)} {e : DSt → Out Dat} {s : DSt} {env : List DV} {p : Pen} {items : List Dat} (f : Dat → Dat) (hi : gi s = .ok items ⟨env, p⟩) (hp : plainAt [v] env = true) (hl : items.length ≤ sizeLine)
    (h : ∀ d ∈ items, e ⟨(wipeE [v] env).set v (.d d), p⟩ = .ok (f d) ⟨(wipeE [v] env).set v (.d d), p⟩) :
    gLc [v] gi (hName v) gYes e s = .ok (.lst (items.map f)) ⟨env, p⟩ := by
  rw [lc_pure (t := gYes) (fun _ => true) f hi hp hl fun d hd => ⟨rfl, fun _ => h d hd⟩, List.filter_eq_self.mpr (fun _ _ => rfl)]
/-- acts that move the pen and what the pool holds -/
theorem lcl_inv {v : Nat} {t : DSt → Out Bool} {e : DSt → Out Dat} (I : Nat → List Dat → DSt → Prop) : ∀ (items acc : List Dat) (s : DSt) (n : Nat), items.length ≤ n → acc.length + items.length ≤ sizeLine → I n acc s →
    (∀ d ∈ items, ∀ n acc s, I (n + 1) acc s → ∃ b s2, t { s with env := s.env.set v (.d d) } = .ok b s2 ∧
      (b = false → plainAt [v] s2.env = true ∧ I n acc { s2 with env := wipeE [v] s2.env }) ∧
      (b = true → ∃ y s3, e s2 = .ok y s3 ∧ plainAt [v] s3.env = true ∧ I n (acc ++ [y]) { s3 with env := wipeE [v] s3.env })) →
    ∃ acc' s', gLcL [v] (hName v) t e items acc s = .ok acc' s' ∧ I (n - items.length) acc' s'
  | [], acc, s, n, _, _, h, _ => ⟨acc, s, rfl, h⟩
  | d :: ds, acc, s, n, hn, hl, h, st => by
    rw [List.length_cons] at hl hn
    obtain ⟨n, rfl⟩ : ∃ m, n = m + 1 := ⟨n - 1, by omega⟩
    obtain ⟨b, s2, e1, h1, h2⟩ := st d (List.mem_cons_self ..) n acc s h
    rw [gLcL]
    simp only [hName, e1]
    have en : n + 1 - (d :: ds).length = n - ds.length := by rw [List.length_cons]; omega
    rw [en]
    cases b with
    | false =>
      obtain ⟨h3, h4⟩ := h1 rfl
      simp only [h3, if_true]
      exact lcl_inv I ds acc _ n (by omega) (by omega) h4 fun x hx => st x (List.mem_cons_of_mem _ hx)
    | true =>
      obtain ⟨y, s3, e2, h3, h4⟩ := h2 rfl
      simp only [e2]
      rw [if_pos ⟨by omega, h3⟩]
      exact lcl_inv I ds _ _ n (by omega) (by rw [List.length_append]; simp; omega) h4 fun x hx => st x (List.mem_cons_of_mem _ hx)
theorem dcl_pure {v : Nat} {gk e : DSt → Out Dat} {env : List DV} {p : Pen} (k : Dat → Key) (f : Dat → Dat) : ∀ (items : List Dat) (acc : List (Key × Dat)), acc.length + items.length ≤ sizeLine →
    (∀ d ∈ items, (∃ kd, gk ⟨(wipeE [v] env).set v (.d d), p⟩ = .ok kd ⟨(wipeE [v] env).set v (.d d), p⟩ ∧ keyD kd = some (k d)) ∧ e ⟨(wipeE [v] env).set v (.d d), p⟩ = .ok (f d) ⟨(wipeE [v] env).set v (.d d), p⟩) →
    gDcL [v] (hName v) gYes gk e items acc ⟨wipeE [v] env, p⟩ = .ok (mergeD acc (items.map fun d => (k d, f d))) ⟨wipeE [v] env, p⟩
  | [], acc, _, _ => by simp [gDcL, mergeD]
  | d :: ds, acc, hl, h => by
    obtain ⟨⟨kd, h1, h2⟩, h3⟩ := h d (List.mem_cons_self ..)
    rw [List.length_cons] at hl
    rw [gDcL]
    simp only [hName, gYes, h1, h2, h3, plain_set, wipe_set, wipe_idem]
    have hpl : (putD acc (k d) (f d)).length ≤ acc.length + 1 := by
      unfold putD
      split
      · simp
      · simp
    rw [if_pos ⟨by omega, trivial⟩, dcl_pure k f ds _ (by omega) fun x hx => h x (List.mem_cons_of_mem _ hx)]
    rfl
theorem dc_pure {v : Nat} {gi : DSt → Out (List Dat)} {gk e : DSt → Out Dat} {s : DSt} {env : List DV} {p : Pen} {items : List Dat} (k : Dat → Key) (f : Dat → Dat) (hi : gi s = .ok items ⟨env, p⟩) (hp : plainAt [v] env = true) (hl : items.length ≤ sizeLine)
    (h : ∀ d ∈ items, (∃ kd, gk ⟨(wipeE [v] env).set v (.d d), p⟩ = .ok kd ⟨(wipeE [v] env).set v (.d d), p⟩ ∧ keyD kd = some (k d)) ∧ e ⟨(wipeE [v] env).set v (.d d), p⟩ = .ok (f d) ⟨(wipeE [v] env).set v (.d d), p⟩) :
    gNdc [v] gi (hName v) gYes gk e s = .ok (.od (mergeD [] (items.map fun d => (k d, f d)))) ⟨env, p⟩ := by
  simp only [gNdc, gDcA, hi, Out.bind, hp, if_true, dcl_pure k f items [] (by simpa using hl) h, back_wipe]
theorem loop_inv {h : Dat → DSt → Option DSt} {b : DSt → OutS} (I : List Dat → DSt → Prop) : ∀ (items : List Dat) (s : DSt), I items s → (∀ d ds s, I (d :: ds) s → ∃ s1 s2, h d s = some s1 ∧ b s1 = .nx s2 ∧ I ds s2) → ∃ s', gLoop h b items s = .nx s' ∧ I [] s'
  | [], s, h0, _ => ⟨s, rfl, h0⟩
  | d :: ds, s, h0, st => by
    obtain ⟨s1, s2, e1, e2, h2⟩ := st d ds s h0
    rw [gLoop, e1]
    simp only [e2]
    exact loop_inv I ds s2 h2 st
theorem eq_refl {d : Dat} {q : PyData} (h : toPy d = some q) (hs : SeqAt.shaped q = true) : eqD d d = some true := by
  have h2 : q.canLay0 = true := by
    unfold SeqAt.shaped at hs
    exact (Bool.and_eq_true _ _ ▸ hs).1
  simp only [eqD, h, hs, and_self, if_true]
  rw [SeqAt.eqv_refl_plain q (PyData.plain_of_canLay0 q h2)]
end BD
namespace BD
open PySem PySem.Spec PyProof.Rows L2
def Lt (x : Str) : Prop := ∃ c, IsL c ∧ x = sg c
def Wd (w : Str) : Prop := ∀ c ∈ w.cps.toList, IsL c
def Im (w : Str) : Prop := Wd w ∧ 1 ≤ w.length ∧ w.length ≤ 4
theorem Lt.im {x : Str} (h : Lt x) : Im x := by
  obtain ⟨c, h, rfl⟩ := h
  refine ⟨fun d hd => ?_, Nat.le_refl 1, by rw [sg_len]; decide⟩
  rw [sg_list] at hd
  simp at hd
  exact hd ▸ h
theorem wd_ok {w : Str} (h : Wd w) : PyData.strOk w = true := by
  unfold PyData.strOk
  rw [← Array.all_toList, List.all_eq_true]
  intro c hc
  have := h c hc
  unfold IsL at this
  simp
  omega
def dK (t : List (Str × Str)) : List (Key × Dat) := t.map fun q => (.inr q.1, .str q.2)
def keys (t : List (Str × Str)) : List Str := t.map (·.1)
def val? (t : List (Str × Str)) (x : Str) : Option Str := (t.find? fun q => decide (q.1 = x)).map (·.2)
def putT (t : List (Str × Str)) (x w : Str) : List (Str × Str) :=
  if (t.any fun q => decide (q.1 = x)) = true then t.map (fun q => if q.1 = x then (q.1, w) else q) else t ++ [(x, w)]
def merT (t u : List (Str × Str)) : List (Str × Str) := u.foldl (fun acc q => putT acc q.1 q.2) t
theorem dK_keys (t : List (Str × Str)) : ((dK t).map fun q => kD q.1) = (keys t).map .str := by
  simp [dK, keys, kD]
theorem dK_len (t : List (Str × Str)) : (dK t).length = t.length := by simp [dK]
theorem dK_val (t : List (Str × Str)) (x : Str) : valD (dK t) (.inr x) = (val? t x).map .str := by
  induction t with
  | nil => rfl
  | cons q t ih =>
    by_cases h : q.1 = x
    · simp [valD, val?, dK, h]
    · simpa [valD, val?, dK, h, List.find?_cons] using ih
theorem dK_put (t : List (Str × Str)) (x w : Str) : putD (dK t) (.inr x) (.str w) = dK (putT t x w) := by
  have e : ((dK t).any fun kv => decide (kv.1 = .inr x)) = (t.any fun q => decide (q.1 = x)) := by
    simp [dK, List.any_map, Function.comp_def]
  unfold putD putT
  rw [e]
  by_cases h : (t.any fun q => decide (q.1 = x)) = true
  · rw [if_pos h, if_pos h]
    simp only [dK, List.map_map]
    apply List.map_congr_left
    intro q _
    by_cases z : q.1 = x <;> simp [Function.comp, z]
  · rw [if_neg h, if_neg h]
    simp [dK]
theorem dK_mer (t u : List (Str × Str)) : mergeD (dK t) (dK u) = dK (merT t u) := by
  induction u generalizing t with
  | nil => rfl
  | cons q u ih =>
    show mergeD (putD (dK t) (.inr q.1) (.str q.2)) (dK u) = dK (merT (putT t q.1 q.2) u)
    rw [dK_put, ih]
theorem val_keys {t : List (Str × Str)} {x : Str} : val? t x = none ↔ x ∉ keys t := by
  induction t with
  | nil => simp [val?, keys]
  | cons q t ih =>
    by_cases h : q.1 = x
    · simp [val?, keys, h]
    · have h' : ¬ x = q.1 := fun z => h z.symm
      simpa [val?, keys, h, h', List.find?_cons] using ih
theorem val_mem {t : List (Str × Str)} {x w : Str} (h : val? t x = some w) : (x, w) ∈ t := by
  unfold val? at h
  cases e : t.find? fun q => decide (q.1 = x) with
  | none => rw [e] at h; cases h
  | some q =>
    rw [e] at h
    cases h
    have h1 := List.mem_of_find?_eq_some e
    have h2 := List.find?_some e
    have h3 : q.1 = x := of_decide_eq_true h2
    rw [← h3]
    exact h1
theorem val_some {t : List (Str × Str)} {x : Str} (h : x ∈ keys t) : ∃ w, val? t x = some w ∧ (x, w) ∈ t := by
  cases e : val? t x with
  | none => exact (val_keys.mp e h).elim
  | some w => exact ⟨w, rfl, val_mem e⟩
theorem val_nodup {t : List (Str × Str)} (hn : (keys t).Nodup) {x w : Str} (h : (x, w) ∈ t) : val? t x = some w := by
  induction t with
  | nil => cases h
  | cons q t ih =>
    simp only [keys, List.map_cons, List.nodup_cons] at hn
    rcases List.mem_cons.mp h with h | h
    · subst h
      simp [val?]
    · have hx : q.1 ≠ x := fun z => hn.1 (by rw [z]; exact List.mem_map.mpr ⟨_, h, rfl⟩)
      have := ih hn.2 h
      simpa [val?, List.find?_cons, hx] using this
theorem any_keysT {t : List (Str × Str)} {x : Str} : (t.any fun q => decide (q.1 = x)) = decide (x ∈ keys t) := by
  rw [Bool.eq_iff_iff, List.any_eq_true, decide_eq_true_iff, keys, List.mem_map]
  simp only [decide_eq_true_iff]
theorem put_new {t : List (Str × Str)} {x w : Str} (h : x ∉ keys t) : putT t x w = t ++ [(x, w)] := by
  unfold putT
  rw [any_keysT, if_neg (by simpa using h)]
theorem put_old {t : List (Str × Str)} {x w : Str} (h : x ∈ keys t) : putT t x w = t.map fun q => if q.1 = x then (q.1, w) else q := by
  unfold putT
  rw [any_keysT, if_pos (by simpa using h)]
theorem keys_put_old {t : List (Str × Str)} {x w : Str} (h : x ∈ keys t) : keys (putT t x w) = keys t := by
  rw [put_old h]
  simp only [keys, List.map_map]
  apply List.map_congr_left
  intro q _
  by_cases z : q.1 = x <;> simp [Function.comp, z]
theorem keys_put_new {t : List (Str × Str)} {x w : Str} (h : x ∉ keys t) : keys (putT t x w) = keys t ++ [x] := by
  rw [put_new h]
  simp [keys]
theorem mem_keys_put {t : List (Str × Str)} {x w y : Str} : y ∈ keys (putT t x w) ↔ y ∈ keys t ∨ y = x := by
  by_cases h : x ∈ keys t
  · rw [keys_put_old h]
    constructor
    · exact .inl
    · rintro (h' | rfl)
      · exact h'
      · exact h
  · rw [keys_put_new h]
    simp
theorem nodup_put {t : List (Str × Str)} {x w : Str} (hn : (keys t).Nodup) : (keys (putT t x w)).Nodup := by
  by_cases h : x ∈ keys t
  · rw [keys_put_old h]; exact hn
  · rw [keys_put_new h, List.nodup_append]
    refine ⟨hn, by simp, fun a ha b hb e => h ?_⟩
    rw [show b = x by simpa using hb] at e
    exact e ▸ ha
theorem mem_put {t : List (Str × Str)} {x w : Str} {q : Str × Str} (h : q ∈ putT t x w) : q ∈ t ∨ q = (x, w) := by
  by_cases hx : x ∈ keys t
  · rw [put_old hx] at h
    obtain ⟨r, hr, e⟩ := List.mem_map.mp h
    by_cases z : r.1 = x
    · rw [if_pos z] at e
      exact .inr (by rw [← e, z])
    · rw [if_neg z] at e
      exact .inl (e ▸ hr)
  · rw [put_new hx] at h
    simpa using h
theorem val_put_self {t : List (Str × Str)} {x w : Str} : val? (putT t x w) x = some w := by
  by_cases h : x ∈ keys t
  · rw [put_old h]
    induction t with
    | nil => cases h
    | cons q t ih =>
      by_cases z : q.1 = x
      · simp [val?, z]
      · have h' : x ∈ keys t := by
          have : x = q.1 ∨ x ∈ keys t := by simpa [keys] using h
          rcases this with e | e
          · exact (z e.symm).elim
          · exact e
        have := ih h'
        simpa [val?, List.find?_cons, z] using this
  · rw [put_new h]
    have : t.find? (fun q => decide (q.1 = x)) = none := by
      have := val_keys.mpr h
      simpa [val?] using this
    simp [val?, List.find?_append, this]
theorem val_put_ne {t : List (Str × Str)} {x w y : Str} (hy : y ≠ x) : val? (putT t x w) y = val? t y := by
  have hxy : ¬ x = y := fun e => hy e.symm
  by_cases h : x ∈ keys t
  · rw [put_old h]
    clear h
    induction t with
    | nil => rfl
    | cons q t ih =>
      by_cases z : q.1 = x
      · have zy : ¬ q.1 = y := fun e => hxy (z ▸ e)
        simpa [val?, List.find?_cons, z, hxy, zy] using ih
      · by_cases z2 : q.1 = y
        · simp [val?, z, z2, hy]
        · simpa [val?, List.find?_cons, z, z2] using ih
  · rw [put_new h]
    simp [val?, List.find?_append, hxy]
theorem mer_nodup {t u : List (Str × Str)} (hn : (keys t).Nodup) : (keys (merT t u)).Nodup := by
  induction u generalizing t with
  | nil => exact hn
  | cons q u ih => exact ih (nodup_put hn)
theorem mem_mer {t u : List (Str × Str)} {q : Str × Str} (h : q ∈ merT t u) : q ∈ t ∨ q ∈ u := by
  induction u generalizing t with
  | nil => exact .inl h
  | cons r u ih =>
    rcases ih h with h | h
    · rcases mem_put h with h | h
      · exact .inl h
      · exact .inr (by rw [h]; exact List.mem_cons_self ..)
    · exact .inr (List.mem_cons_of_mem _ h)
theorem mem_keys_mer {t u : List (Str × Str)} {y : Str} : y ∈ keys (merT t u) ↔ y ∈ keys t ∨ y ∈ keys u := by
  induction u generalizing t with
  | nil => simp [merT, keys]
  | cons r u ih =>
    show y ∈ keys (merT (putT t r.1 r.2) u) ↔ _
    rw [ih, mem_keys_put]
    simp only [keys, List.map_cons, List.mem_cons]
    constructor
    · rintro ((h | h) | h)
      · exact .inl h
      · exact .inr (.inl h)
      · exact .inr (.inr h)
    · rintro (h | h | h)
      · exact .inl (.inl h)
      · exact .inl (.inr h)
      · exact .inr h
theorem mer_app {t u : List (Str × Str)} (hn : (keys (t ++ u)).Nodup) : merT t u = t ++ u := by
  induction u generalizing t with
  | nil => simp [merT]
  | cons q u ih =>
    have hq : q.1 ∉ keys t := by
      have h2 : (keys t ++ (q.1 :: keys u)).Nodup := by simpa [keys] using hn
      rw [List.nodup_append] at h2
      exact fun hm => h2.2.2 _ hm _ (List.mem_cons_self ..) rfl
    show merT (putT t q.1 q.2) u = _
    rw [put_new hq, ih (by simpa [keys] using hn)]
    simp
theorem mer_nil {u : List (Str × Str)} (hn : (keys u).Nodup) : merT [] u = u := mer_app (t := []) hn
theorem nodup_le : ∀ {l m : List Str}, l.Nodup → (∀ x ∈ l, x ∈ m) → l.length ≤ m.length
  | [], m, _, _ => Nat.zero_le _
  | x :: l, m, hn, h => by
    rw [List.nodup_cons] at hn
    have hm := h x (List.mem_cons_self ..)
    have := nodup_le (l := l) (m := m.erase x) hn.2 fun y hy => by
      have hne : y ≠ x := fun e => hn.1 (e ▸ hy)
      exact (List.mem_erase_of_ne hne).mpr (h y (List.mem_cons_of_mem _ hy))
    rw [List.length_erase_of_mem hm] at this
    have hp : 0 < m.length := List.length_pos_of_mem hm
    rw [List.length_cons]
    omega
theorem ins_perm (x : Str) : ∀ l : List Str, (insS x l).Perm (x :: l)
  | [] => .refl _
  | y :: r => by
    unfold insS
    split
    · exact ((ins_perm x r).cons y).trans (.swap x y r)
    · exact .refl _
theorem sort_perm : ∀ l : List Str, (sortS l).Perm l
  | [] => .refl _
  | x :: r => (ins_perm x _).trans ((sort_perm r).cons x)
theorem mem_sort {l : List Str} {x : Str} : x ∈ sortS l ↔ x ∈ l := (sort_perm l).mem_iff
theorem sort_len (l : List Str) : (sortS l).length = l.length := (sort_perm l).length_eq
/-- the table by its sorted letters -/
def Ord (t : List (Str × Str)) : List (Str × Str) := (sortS (keys t)).map fun x => (x, (val? t x).getD Str.empty)
theorem keys_ord (t : List (Str × Str)) : keys (Ord t) = sortS (keys t) := by
  simp [Ord, keys, Function.comp_def]
theorem ord_len (t : List (Str × Str)) : (Ord t).length = t.length := by
  rw [Ord, List.length_map, sort_len, keys, List.length_map]
theorem val_ord (t : List (Str × Str)) (x : Str) : val? (Ord t) x = val? t x := by
  have gen : ∀ l : List Str, val? (l.map fun x => (x, (val? t x).getD Str.empty)) x = if x ∈ l then some ((val? t x).getD Str.empty) else none := by
    intro l
    induction l with
    | nil => rfl
    | cons y l ih =>
      by_cases h : y = x
      · subst h
        simp [val?]
      · have h' : ¬ x = y := fun e => h e.symm
        simpa [val?, List.find?_cons, h, h'] using ih
  unfold Ord
  rw [gen]
  by_cases h : x ∈ keys t
  · obtain ⟨w, e, _⟩ := val_some h
    rw [if_pos (mem_sort.mpr h), e]
    rfl
  · rw [if_neg (fun z => h (mem_sort.mp z)), val_keys.mpr h]
end BD
namespace BD
open PySem PySem.Spec PyProof.Rows L2
section
variable {cs : List Addr} {p : Pen}
def chars (z : Str) : List Str := z.cps.toList.map fun c => ⟨#[c]⟩
theorem signs_chars (z : Str) : signs z = (chars z).map .str := by simp [signs, chars]
theorem chars_lt {z : Str} (h : Wd z) : ∀ x ∈ chars z, Lt x := by
  intro x hx
  obtain ⟨c, hc, rfl⟩ := List.mem_map.mp hx
  exact ⟨c, h c hc, rfl⟩
theorem chars_len (z : Str) : (chars z).length = z.length := by
  simp [chars, Str.length]
theorem is_letter_lt {x : Str} (h : Lt x) : F_is_letter cs [.str x] p = .ok (.bl true) p := by
  obtain ⟨c, h, rfl⟩ := h
  exact is_letter_ok h
theorem is_text_ok {w : Str} (h : Wd w) (hl : w.length ≤ 2000) : F_is_text cs [.str w] p = .ok (.bl true) p := by
  refine fdof rfl ?_
  show g_is_text cs ⟨[.d (.str w), .no], p⟩ = _
  unfold g_is_text
  have hz : w.length ≤ sizeLine := szl hl
  have hn : ¬ (2000 : Int) < (w.length : Int) := by omega
  rw [seq_nx (s1 := ⟨[.d (.str w), .no], p⟩) (by simp [gIfS, gOr, gNot, gB, gUn, gH, look, hIsi, kitT, tyD, bTys, subTy, Out.bind, Out.bindS, gOp, hII, hLen, hz, gI, gC, hn, gPass])]
  obtain ⟨y', e⟩ := loop_letters (cs := cs) (x := .d (.str w)) (y := .no) (p := p) w.cps.toList .no h
  rw [seq_nx (s1 := ⟨[.d (.str w), y'], p⟩) (by
    simp only [gFor, gIs, gVar, List.getElem?_cons_zero, Out.bind, Out.bindS]
    exact e)]
  rfl
theorem im_sz {w : Str} (h : w.length ≤ 4) : w.length ≤ sizeLine := szl (by omega)
theorem is_image_ok {w : Str} (h : Im w) : F_is_image cs [.str w] p = .ok (.bl true) p := by
  obtain ⟨h1, h2, h3⟩ := h
  refine fdof rfl ?_
  show g_is_image cs ⟨[.d (.str w)], p⟩ = _
  have e := is_text_ok (cs := cs) (p := p) h1 (by omega)
  have hz := im_sz h3
  have a1 : (1 : Int) ≤ (w.length : Int) := by omega
  have a2 : (w.length : Int) ≤ 4 := by omega
  simp [g_is_image, gRet, gAndV, gCall, gCons, gVar, gNil, Out.bind, Out.bindS, e, gChain, gI, gC, gUn, gH, look, hLen, hz, hII, a1, a2, chainK]
structure Good (t : List (Str × Str)) : Prop where
  lt : ∀ q ∈ t, Lt q.1
  im : ∀ q ∈ t, Im q.2
  nd : (keys t).Nodup
  len : t.length ≤ 12
theorem Good.key {t : List (Str × Str)} (h : Good t) {x : Str} (hx : x ∈ keys t) : Lt x := by
  obtain ⟨q, hq, rfl⟩ := List.mem_map.mp hx
  exact h.lt q hq
theorem strs_map : ∀ l : List Str, strsOf (l.map .str) = some l
  | [] => rfl
  | x :: l => by rw [List.map_cons, strsOf, strs_map l]; rfl
theorem keys_len (t : List (Str × Str)) : (keys t).length = t.length := by simp [keys]
theorem sz12 {n : Nat} (h : n ≤ 12) : n ≤ sizeLine := szl (by omega)
/-- d is the table t, its own or borrowed -/
def IsT (d : Dat) (t : List (Str × Str)) : Prop := d = .dic (dK t) ∨ d = .bor (dK t)
theorem IsT.of {d : Dat} {t : List (Str × Str)} (h : IsT d t) : dicOf d = some (dK t) := by
  rcases h with rfl | rfl <;> rfl
/-- sorted([str(key) for key in images]) -/
theorem sorted_keys {v i : Nat} {env : List DV} {d : Dat} {t : List (Str × Str)} (hd : env[i]? = some (.d d)) (hT : IsT d t) (hl : t.length ≤ 12) (hv : v < env.length) (hp : plainAt [v] env = true) :
    gUn hSorted (gI (gLc [v] (gIk (gVar i)) (hName v) gYes (gUn hStr (gH v)))) ⟨env, p⟩ = .ok (.lst ((sortS (keys t)).map .str)) ⟨env, p⟩ := by
  have e1 : gIk (gVar i) ⟨env, p⟩ = .ok ((keys t).map .str) ⟨env, p⟩ := by
    simp only [gIk, gVar, hd, Out.bind, hT.of, dK_keys]
  have hw : v < (wipeE [v] env).length := by simpa [wipeE] using hv
  have e2 := lc_map (v := v) (e := gUn hStr (gH v)) id e1 hp (by rw [List.length_map, keys_len]; exact sz12 hl) (fun x hx => by
    obtain ⟨y, _, rfl⟩ := List.mem_map.mp hx
    simp [gUn, gH, hw, Out.bind, look, hStr])
  have hs : (keys t).length < 64 := by rw [keys_len]; omega
  simp only [gUn, gI, e2, Out.bind, look, hSorted, List.map_id, strs_map, hs, if_true]
theorem need_images_ok {d : Dat} {t : List (Str × Str)} (hT : IsT d t) (h : Good t) : F_need_images cs [d] p = .ok .non p := by
  have hty : tyD d = .type "dict" := by rcases hT with rfl | rfl <;> rfl
  have hisi : gUn (hIsi (kitT "dict" cs)) (gH 0) ⟨[.d d, .no, .no], p⟩ = .ok (.bl true) ⟨[.d d, .no, .no], p⟩ := by
    rcases hT with rfl | rfl <;> simp [gUn, gH, look, Out.bind, hIsi, kitT, tyD, bTys, subTy]
  obtain ⟨s1, e1, i1⟩ := loop_inv (h := hName 1) (b := gIfS (gNot (gB (gCall (F_is_letter cs) (gCons (gVar 1) gNil)))) gNever gPass) (fun ds s => (∀ x ∈ ds, ∃ y, x = .str y ∧ Lt y) ∧ ∃ z, z.isO = false ∧ s = ⟨[.d d, z, .no], p⟩) ((keys t).map .str) ⟨[.d d, .no, .no], p⟩
    ⟨fun x hx => by obtain ⟨y, hy, rfl⟩ := List.mem_map.mp hx; exact ⟨y, rfl, h.key hy⟩, .no, rfl, rfl⟩ (fun x ds s hs => by
      obtain ⟨h1, z, _, rfl⟩ := hs
      obtain ⟨y, rfl, hy⟩ := h1 _ (List.mem_cons_self ..)
      have e := is_letter_lt (cs := cs) (p := p) hy
      refine ⟨⟨[.d d, .d (.str y), .no], p⟩, ⟨[.d d, .d (.str y), .no], p⟩, rfl, ?_, fun x hx => h1 x (List.mem_cons_of_mem _ hx), .d (.str y), rfl, rfl⟩
      simp [gIfS, gNot, gB, gCall, gCons, gVar, gNil, Out.bind, Out.bindS, e, gPass])
  obtain ⟨_, z, zo, rfl⟩ := i1
  have es := sorted_keys (p := p) (v := 1) (i := 0) (env := [.d d, z, .no]) (d := d) rfl hT h.len (by simp)
  have hz : plainAt [1] [.d d, z, .no] = true := by
    simp [plainAt, zo]
  obtain ⟨s2, e2, i2⟩ := loop_inv (h := hName 2) (b := gIfS (gNot (gB (gCall (F_is_image cs) (gCons (gOp hDGet (gH 0) (gH 2)) gNil)))) gNever gPass) (fun ds s => (∀ x ∈ ds, ∃ y, x = .str y ∧ y ∈ keys t) ∧ ∃ u, s = ⟨[.d d, z, u], p⟩) ((sortS (keys t)).map .str) ⟨[.d d, z, .no], p⟩
    ⟨fun x hx => by obtain ⟨y, hy, rfl⟩ := List.mem_map.mp hx; exact ⟨y, rfl, mem_sort.mp hy⟩, _, rfl⟩ (fun x ds s hs => by
      obtain ⟨h1, u, rfl⟩ := hs
      obtain ⟨y, rfl, hy⟩ := h1 _ (List.mem_cons_self ..)
      obtain ⟨w, ew, hw⟩ := val_some hy
      have e := is_image_ok (cs := cs) (p := p) (h.im _ hw)
      have ev : valD (dK t) (.inr y) = some (.str w) := by rw [dK_val, ew]; rfl
      refine ⟨⟨[.d d, z, .d (.str y)], p⟩, ⟨[.d d, z, .d (.str y)], p⟩, rfl, ?_, fun x hx => h1 x (List.mem_cons_of_mem _ hx), _, rfl⟩
      have eg : gOp hDGet (gH 0) (gH 2) ⟨[.d d, z, .d (.str y)], p⟩ = .ok (.str w) ⟨[.d d, z, .d (.str y)], p⟩ := by
        simp [gOp, gH, Out.bind, look, hDGet, hT.of, keyD, ev]
      simp [gIfS, gNot, gB, gCall, gCons, eg, gNil, Out.bind, Out.bindS, e, gPass])
  obtain ⟨_, u, rfl⟩ := i2
  refine (fdof0 (s := ⟨[.d d, z, u], p⟩) rfl ?_ : _ = OutF.ok .non p)
  show g_need_images cs ⟨[.d d, .no, .no], p⟩ = _
  unfold g_need_images
  rw [seq_nx (s1 := ⟨[.d d, .no, .no], p⟩) (by simp [gIfS, gNot, gB, hisi, Out.bind, Out.bindS, gPass])]
  rw [seq_nx (s1 := ⟨[.d d, z, .no], p⟩) (by
    rw [← e1]
    simp [gFor, gIk, gVar, Out.bind, Out.bindS, hT.of, dK_keys])]
  rw [← e2]
  simp only [gFor, gIl, es hz, Out.bind, Out.bindS]
def Due (t : List (Str × Str)) (z : Str) : List (Str × Str) := merT (merT [] ((chars z).map fun x => (x, x))) t
theorem mer_mer {u : List (Str × Str)} : merT [] (merT [] u) = merT [] u := mer_nil (mer_nodup (by simp [keys]))
theorem mer_len {t u : List (Str × Str)} : (merT t u).length ≤ t.length + u.length := by
  induction u generalizing t with
  | nil => simp [merT]
  | cons q u ih =>
    have h1 := ih (t := putT t q.1 q.2)
    have h2 : (putT t q.1 q.2).length ≤ t.length + 1 := by
      unfold putT
      split <;> simp
    show (merT (putT t q.1 q.2) u).length ≤ _
    rw [List.length_cons]
    omega
theorem kept_ok {d : Dat} {t : List (Str × Str)} {z : Str} (hT : IsT d t) (h : Good t) (hz : z.length ≤ 2000) : F_kept_images cs [d, .str z] p = .ok (.dic (dK (Due t z))) p := by
  refine fdof rfl ?_
  show g_kept_images cs ⟨[.d d, .d (.str z), .no, .no], p⟩ = _
  have e1 : gIs (gVar 1) ⟨[.d d, .d (.str z), .no, .no], p⟩ = .ok ((chars z).map .str) ⟨[.d d, .d (.str z), .no, .no], p⟩ := by
    simp [gIs, gVar, Out.bind, signs_chars]
  have e2 := dc_pure (v := 3) (gk := gVar 3) (e := gVar 3) (fun d => match d with | .str x => (Sum.inr x : Key) | _ => .inl 0) id e1 rfl (by rw [List.length_map, chars_len]; exact szl hz) (fun x hx => by
    obtain ⟨y, _, rfl⟩ := List.mem_map.mp hx
    exact ⟨⟨.str y, rfl, rfl⟩, rfl⟩)
  rw [show ((chars z).map Dat.str).map (fun d => ((match d with | .str x => (Sum.inr x : Key) | _ => .inl 0), id d)) = dK ((chars z).map fun x => (x, x)) by simp [dK, Function.comp_def],
    show ([] : List (Key × Dat)) = dK [] from rfl, dK_mer] at e2
  unfold g_kept_images
  rw [seq_nx (s1 := ⟨[.d d, .d (.str z), .od (dK (merT [] ((chars z).map fun x => (x, x)))), .no], p⟩) (by
    simp only [gSetN, e2, Out.bindS]
    rfl)]
  have hsz : (dK (merT [] ((chars z).map fun x => (x, x)))).length + (dK t).length ≤ sizeLine := by
    have := mer_len (t := []) (u := (chars z).map fun x => (x, x))
    rw [List.length_map, chars_len, List.length_nil] at this
    have h2 := h.len
    rw [dK_len, dK_len, sizeLine_eq]
    omega
  have em : mergeD (mergeD [] (dK (merT [] ((chars z).map fun x => (x, x))))) (dK t) = dK (Due t z) := by
    rw [show ([] : List (Key × Dat)) = dK [] from rfl, dK_mer, dK_mer, mer_mer]
    rfl
  rcases hT with rfl | rfl <;> simp [gRet, gPl, gNmrg, gH, dicAt, look, dicOf, Out.bind, Out.bindS, hsz, em]
theorem few_ok {t : List (Str × Str)} (h : t.length ≤ 12) : F_need_few cs [.dic (dK t)] p = .ok .non p := by
  refine (fdof0 (s := ⟨[.d (.dic (dK t))], p⟩) rfl ?_ : _ = OutF.ok .non p)
  show g_need_few cs ⟨[.d (.dic (dK t))], p⟩ = _
  have hn : ¬ (12 : Int) < (t.length : Int) := by omega
  simp [g_need_few, gIfS, gB, gOp, gUn, gH, look, gI, gC, hLen, hII, Out.bind, Out.bindS, dK_len, hn, gPass]
theorem keys_same (l : List Str) (f : Str → Str) : keys (l.map fun x => (x, f x)) = l := by simp [keys, Function.comp_def]
theorem order_ok {t : List (Str × Str)} (hn : (keys t).Nodup) (hl : t.length ≤ 12) : F_in_order cs [.dic (dK t)] p = .ok (.dic (dK (Ord t))) p := by
  refine fdof rfl ?_
  show g_in_order cs ⟨[.d (.dic (dK t)), .no, .no], p⟩ = _
  have e0 := sorted_keys (p := p) (v := 2) (i := 0) (env := [.d (.dic (dK t)), .no, .no]) (d := .dic (dK t)) rfl (.inl rfl) hl (by simp) rfl
  have e1 : gIl (gUn hSorted (gI (gLc [2] (gIk (gVar 0)) (hName 2) gYes (gUn hStr (gH 2))))) ⟨[.d (.dic (dK t)), .no, .no], p⟩ = .ok ((sortS (keys t)).map .str) ⟨[.d (.dic (dK t)), .no, .no], p⟩ := by
    simp only [gIl, e0, Out.bind]
  have e2 := dc_pure (v := 1) (gk := gVar 1) (e := gOp hDGet (gH 0) (gH 1)) (fun d => match d with | .str x => (Sum.inr x : Key) | _ => .inl 0) (fun d => match d with | .str x => .str ((val? t x).getD Str.empty) | _ => .non) e1 rfl (by rw [List.length_map, sort_len, keys_len]; exact sz12 hl) (fun x hx => by
    obtain ⟨y, hy, rfl⟩ := List.mem_map.mp hx
    obtain ⟨w, ew, _⟩ := val_some (mem_sort.mp hy)
    refine ⟨⟨.str y, rfl, rfl⟩, ?_⟩
    have ev : valD (dK t) (.inr y) = some (.str w) := by rw [dK_val, ew]; rfl
    simp [wipeE, gOp, gH, Out.bind, look, hDGet, dicOf, keyD, ev, ew])
  rw [show ((sortS (keys t)).map Dat.str).map (fun d => ((match d with | .str x => (Sum.inr x : Key) | _ => .inl 0), (match d with | .str x => .str ((val? t x).getD Str.empty) | _ => .non : Dat))) = dK (Ord t) by simp [dK, Ord, Function.comp_def],
    show ([] : List (Key × Dat)) = dK [] from rfl, dK_mer, mer_nil (by rw [keys_ord]; exact (sort_perm _).nodup_iff.mpr hn)] at e2
  simp only [g_in_order, gRet, gPl, e2, Out.bind, Out.bindS]
theorem join_len (z : Str) : ∀ l : List Str, (Txt.join z l).length ≤ (l.map (·.length)).sum + l.length * z.length := by
  intro l
  rw [TL.join_eq]
  induction l with
  | nil => simp [Str.join, Str.empty, Str.length]
  | cons x l ih =>
    cases l with
    | nil => simp [Str.join]
    | cons y l =>
      have e : (Str.join z (x :: y :: l)).length = x.length + z.length + (Str.join z (y :: l)).length := by
        show (x ++ z ++ Str.join z (y :: l)).cps.size = _
        show ((x.cps ++ z.cps) ++ (Str.join z (y :: l)).cps).size = _
        simp [Str.length, Nat.add_assoc]
      rw [e]
      simp only [List.map_cons, List.sum_cons, List.length_cons] at ih ⊢
      rw [Nat.add_mul]
      omega
theorem sum_le {l : List Str} {k : Nat} (h : ∀ x ∈ l, x.length ≤ k) : (l.map (·.length)).sum ≤ l.length * k := by
  induction l with
  | nil => simp
  | cons x l ih =>
    have h1 := h x (List.mem_cons_self ..)
    have h2 := ih fun y hy => h y (List.mem_cons_of_mem _ hy)
    simp only [List.map_cons, List.sum_cons, List.length_cons]
    rw [Nat.add_mul]
    omega
theorem letters_ok {t : List (Str × Str)} (hg : Good t) : ∃ l : List Str, F_letters_in cs [.dic (dK t)] p = .ok (.tup (l.map .str)) p := by
  have e1 : gIk (gVar 0) ⟨[.d (.dic (dK t)), .no], p⟩ = .ok ((keys t).map .str) ⟨[.d (.dic (dK t)), .no], p⟩ := by
    simp only [gIk, gVar, List.getElem?_cons_zero, Out.bind, dicOf, dK_keys]
  have e2 := lc_map (v := 1) (e := gOp hDGet (gH 0) (gH 1)) (fun d => match d with | .str x => .str ((val? t x).getD Str.empty) | _ => .non) e1 rfl (by rw [List.length_map, keys_len]; exact sz12 hg.len) (fun x hx => by
    obtain ⟨y, hy, rfl⟩ := List.mem_map.mp hx
    obtain ⟨w, ew, _⟩ := val_some hy
    have ev : valD (dK t) (.inr y) = some (.str w) := by rw [dK_val, ew]; rfl
    simp [wipeE, gOp, gH, Out.bind, look, hDGet, dicOf, keyD, ev, ew])
  rw [show ((keys t).map Dat.str).map (fun d => (match d with | .str x => .str ((val? t x).getD Str.empty) | _ => .non : Dat)) = ((keys t).map fun x => (val? t x).getD Str.empty).map .str by simp [Function.comp_def]] at e2
  have hl : ∀ w ∈ (keys t).map (fun x => (val? t x).getD Str.empty), w.length ≤ 4 := fun w hw => by
    obtain ⟨x, hx, rfl⟩ := List.mem_map.mp hw
    obtain ⟨w, ew, hm⟩ := val_some hx
    rw [ew]
    exact (hg.im _ hm).2.2
  have hs := sum_le hl
  rw [List.length_map, keys_len] at hs
  have h12 := hg.len
  have hj := join_len ("" : Str) ((keys t).map fun x => (val? t x).getD Str.empty)
  have h0 : ("" : Str).length = 0 := by decide +kernel
  rw [h0, Nat.mul_zero] at hj
  have hc : (((keys t).map fun x => (val? t x).getD Str.empty).map (·.length)).sum + ((keys t).map fun x => (val? t x).getD Str.empty).length * ("" : Str).length ≤ 16777216 := by
    rw [h0]
    omega
  have hb : (Txt.join ("" : Str) ((keys t).map fun x => (val? t x).getD Str.empty)).cps.size ≤ 48 := by
    have : (Txt.join ("" : Str) ((keys t).map fun x => (val? t x).getD Str.empty)).length ≤ 48 := by omega
    exact this
  have hb2 : (Txt.join ("" : Str) ((keys t).map fun x => (val? t x).getD Str.empty)).cps.size + 1 < scanBound ∧ (Txt.join ("" : Str) ((keys t).map fun x => (val? t x).getD Str.empty)).cps.size ≤ sizeLine := by
    refine ⟨Nat.lt_of_le_of_lt (Nat.succ_le_succ hb) (by decide +kernel), szl (by omega)⟩
  refine ⟨signS (Txt.join ("" : Str) ((keys t).map fun x => (val? t x).getD Str.empty)), fdof rfl ?_⟩
  show g_letters_in cs ⟨[.d (.dic (dK t)), .no], p⟩ = _
  simp only [g_letters_in, gRet, gUn, gI, gSoSe, gC, e2, Out.bind, Out.bindS, look, hJoin, strs_map, if_pos hc, if_pos hb2, hTuple]
end
end BD
namespace BD
open PySem PySem.Spec PyProof.Rows L2
open Classical in
noncomputable def FIof (n m : Nat) (C : Addr) (g : DSt → OutS) : FI := fun ds p =>
  if h : ds.length = n ∧ ∃ fs p', ∀ x, runI m C g x ds p = .ok fs p' then .ok h.2.choose h.2.choose_spec.choose else .no
section
variable {n m : Nat} {C : Addr} {g : DSt → OutS} {ds : List Dat} {p p' : Pen} {fs : List (Str × Dat)}
theorem fiof (hl : ds.length = n) (e : ∀ x, runI m C g x ds p = .ok fs p') : FIof n m C g ds p = .ok fs p' := by
  have h : ds.length = n ∧ ∃ fs p', ∀ x, runI m C g x ds p = .ok fs p' := ⟨hl, fs, p', e⟩
  unfold FIof
  rw [dif_pos h]
  have := h.2.choose_spec.choose_spec 0
  rw [e 0] at this
  exact this.symm
theorem fiof_len (ds : List Dat) (p : Pen) (h : FIof n m C g ds p ≠ .no) : ds.length = n := by
  unfold FIof at h
  split at h
  · rename_i h1; exact h1.1
  · exact (h rfl).elim
theorem fiof_ne (ds : List Dat) (p : Pen) (C' : Addr) (fs : List (Str × Dat)) (p' : Pen) : FIof n m C g ds p ≠ .ex C' fs p' := by
  unfold FIof
  split <;> exact fun h => nomatch h
theorem fiof_le (x : Addr) (ds : List Dat) (p : Pen) : FIof n m C g ds p = .no ∨ runI m C g x ds p = FIof n m C g ds p := by
  unfold FIof
  split
  · rename_i h1
    exact .inr (h1.2.choose_spec.choose_spec x)
  · exact .inl rfl
end
def chg (d : List (Str × Str)) (x : Str) : Bool := !decide ((val? d x).getD Str.empty = x)
def flds (r : List Str) (d : List (Str × Str)) : List (Str × Dat) :=
  [("images", .dic (dK (Ord d))), ("letters", .tup ((sortS (keys d)).map .str)), ("reached", .tup (r.map .str)), ("changed", .tup (((sortS (keys d)).filter (chg d)).map .str))]
section
variable {cs subs others : List Addr} {CM : Addr} {ok : Addr → Bool} {p : Pen}
theorem due_good {t : List (Str × Str)} {z : Str} (h : Good t) (hz : Wd z) (hl : (Due t z).length ≤ 12) : Good (Due t z) := by
  have hm : ∀ q ∈ Due t z, q ∈ t ∨ ∃ x, Lt x ∧ q = (x, x) := fun q hq => by
    rcases mem_mer hq with hq | hq
    · rcases mem_mer hq with hq | hq
      · cases hq
      · obtain ⟨x, hx, rfl⟩ := List.mem_map.mp hq
        exact .inr ⟨x, chars_lt hz x hx, rfl⟩
    · exact .inl hq
  refine ⟨fun q hq => ?_, fun q hq => ?_, mer_nodup (mer_nodup (by simp [keys])), hl⟩
  · rcases hm q hq with h1 | ⟨x, hx, rfl⟩
    · exact h.lt q h1
    · exact hx
  · rcases hm q hq with h1 | ⟨x, hx, rfl⟩
    · exact h.im q h1
    · exact hx.im
theorem ord_good {t : List (Str × Str)} (h : Good t) : Good (Ord t) := by
  have hm : ∀ q ∈ Ord t, q ∈ t := fun q hq => by
    obtain ⟨x, hx, rfl⟩ := List.mem_map.mp hq
    obtain ⟨w, ew, hw⟩ := val_some (mem_sort.mp hx)
    rw [ew]
    exact hw
  exact ⟨fun q hq => h.lt q (hm q hq), fun q hq => h.im q (hm q hq), by rw [keys_ord]; exact (sort_perm _).nodup_iff.mpr h.nd, by rw [ord_len]; exact h.len⟩
theorem im_ok {w : Str} (h : Im w) : PyData.strOk w = true := wd_ok h.1
theorem lt_ok {w : Str} (h : Lt w) : PyData.strOk w = true := wd_ok h.im.1
theorem neS {a b : Str} {s : DSt} (ha : PyData.strOk a = true) (hb : PyData.strOk b = true) : hNe (.str a) (.str b) s = .ok (.bl (!decide (a = b))) s := by
  simp [hNe, eqS ha hb]
theorem hEqS {a b : Str} {s : DSt} (ha : PyData.strOk a = true) (hb : PyData.strOk b = true) : hEq (.str a) (.str b) s = .ok (.bl (decide (a = b))) s := by
  simp [hEq, eqS ha hb]
theorem init_run (hok : ok CM = true) {d : Dat} {t : List (Str × Str)} {z : Str} (hT : IsT d t) (h : Good t) (hz : Wd z) (hl : z.length ≤ 2000) (h12 : (Due t z).length ≤ 12) : ∃ r, ∀ x, runI 2 CM (g_m_init cs subs others CM ok) x [d, .str z] p = .ok (flds r (Due t z)) p := by
  have hg := due_good h hz h12
  have ho := ord_good hg
  obtain ⟨r, er⟩ := letters_ok (cs := cs) (p := p) ho
  refine ⟨r, fun x => ?_⟩
  unfold runI
  have e0 := need_images_ok (cs := cs) (p := p) hT h
  have e1 := is_text_ok (cs := cs) (p := p) hz hl
  have e2 := kept_ok (cs := cs) (p := p) hT h hl
  have e3 := few_ok (cs := cs) (p := p) h12
  have e4 := order_ok (cs := cs) (p := p) hg.nd h12
  have body : g_m_init cs subs others CM ok ⟨[.oi x CM [], .d d, .d (.str z), .no, .no], p⟩ = .nx ⟨[.oi x CM (flds r (Due t z)), .d d, .d (.str z), .d (.dic (dK (Due t z))), .no], p⟩ := by
    unfold g_m_init
    rw [seq_nx (s1 := ⟨[.oi x CM [], .d d, .d (.str z), .no, .no], p⟩) (by simp [gDrop, gCall, gCons, gVar, gNil, Out.bind, Out.bindS, e0])]
    rw [seq_nx (s1 := ⟨[.oi x CM [], .d d, .d (.str z), .no, .no], p⟩) (by simp [gIfS, gNot, gB, gCall, gCons, gVar, gNil, Out.bind, Out.bindS, e1, gPass])]
    rw [seq_nx (s1 := ⟨[.oi x CM [], .d d, .d (.str z), .d (.dic (dK (Due t z))), .no], p⟩) (by simp [gSet, gCall, gCons, gVar, gNil, Out.bind, Out.bindS, e2])]
    rw [seq_nx (s1 := ⟨[.oi x CM [], .d d, .d (.str z), .d (.dic (dK (Due t z))), .no], p⟩) (by simp [gDrop, gCall, gCons, gVar, gNil, Out.bind, Out.bindS, e3])]
    rw [seq_nx (s1 := ⟨[.oi x CM [("images", .dic (dK (Ord (Due t z))))], .d d, .d (.str z), .d (.dic (dK (Due t z))), .no], p⟩) (by simp [gFldS, gCall, gCons, gVar, gNil, Out.bind, Out.bindS, e4, hok, putFd])]
    generalize hD : Due t z = D at *
    have hi : ∀ (fs : List (Str × Dat)) (u : DV), fs.lookup ("images" : Str) = some (.dic (dK (Ord D))) → gUn (hFld "images" ok) (gH 0) ⟨[.oi x CM fs, .d d, .d (.str z), .d (.dic (dK D)), u], p⟩ = .ok (.dic (dK (Ord D))) ⟨[.oi x CM fs, .d d, .d (.str z), .d (.dic (dK D)), u], p⟩ := fun fs u hf => by
      simp [gUn, gH, look, hFld, Out.bind, hok, hf]
    have hk : ∀ fs : List (Str × Dat), fs.lookup ("images" : Str) = some (.dic (dK (Ord D))) → gIk (gUn (hFld "images" ok) (gH 0)) ⟨[.oi x CM fs, .d d, .d (.str z), .d (.dic (dK D)), .no], p⟩ = .ok ((sortS (keys D)).map .str) ⟨[.oi x CM fs, .d d, .d (.str z), .d (.dic (dK D)), .no], p⟩ := fun fs hf => by
      simp only [gIk, hi fs .no hf, Out.bind, dicOf, dK_keys, keys_ord]
    have sl : ((sortS (keys D)).map Dat.str).length ≤ sizeLine := by
      rw [List.length_map, sort_len, keys_len]
      exact sz12 h12
    have a1 := lc_map (v := 4) (e := gVar 4) id (hk [("images", .dic (dK (Ord D)))] rfl) rfl sl (fun y hy => rfl)
    rw [List.map_id] at a1
    rw [seq_nx (s1 := ⟨[.oi x CM [("images", .dic (dK (Ord D))), ("letters", .tup ((sortS (keys D)).map .str))], .d d, .d (.str z), .d (.dic (dK D)), .no], p⟩) (by
      simp [gFldS, gUn, gI, a1, Out.bind, Out.bindS, look, hTuple, hok, putFd]
      decide +kernel)]
    rw [seq_nx (s1 := ⟨[.oi x CM [("images", .dic (dK (Ord D))), ("letters", .tup ((sortS (keys D)).map .str)), ("reached", .tup (r.map .str))], .d d, .d (.str z), .d (.dic (dK D)), .no], p⟩) (by
      have := hi [("images", .dic (dK (Ord D))), ("letters", .tup ((sortS (keys D)).map .str))] .no rfl
      simp only [gFldS, gCall, gCons, this, gNil, Out.bind, Out.bindS, er, List.getElem?_cons_zero, hok]
      rfl)]
    have a2 := lc_pure (v := 4) (t := gB (gOp hNe (gI (gOp hDGet (gI (gUn (hFld "images" ok) (gH 0))) (gH 4))) (gH 4))) (e := gVar 4) (fun y => match y with | .str y => chg D y | _ => false) id (hk [("images", .dic (dK (Ord D))), ("letters", .tup ((sortS (keys D)).map .str)), ("reached", .tup (r.map .str))] rfl) rfl sl (fun y hy => by
      obtain ⟨y, hy', rfl⟩ := List.mem_map.mp hy
      have hy := mem_sort.mp hy'
      obtain ⟨w, ew, hw⟩ := val_some hy
      refine ⟨?_, fun _ => rfl⟩
      have ev : valD (dK (Ord D)) (.inr y) = some (.str w) := by rw [dK_val, val_ord, ew]; rfl
      have ec : chg D y = !decide (w = y) := by rw [chg, ew]; rfl
      have := hi [("images", .dic (dK (Ord D))), ("letters", .tup ((sortS (keys D)).map .str)), ("reached", .tup (r.map .str))] (.d (.str y)) rfl
      show gB _ ⟨[.oi x CM _, .d d, .d (.str z), .d (.dic (dK D)), .d (.str y)], p⟩ = _
      have eg : gOp hDGet (gI (gUn (hFld "images" ok) (gH 0))) (gH 4) ⟨[.oi x CM [("images", .dic (dK (Ord D))), ("letters", .tup ((sortS (keys D)).map .str)), ("reached", .tup (r.map .str))], .d d, .d (.str z), .d (.dic (dK D)), .d (.str y)], p⟩ = .ok (.str w) ⟨[.oi x CM [("images", .dic (dK (Ord D))), ("letters", .tup ((sortS (keys D)).map .str)), ("reached", .tup (r.map .str))], .d d, .d (.str z), .d (.dic (dK D)), .d (.str y)], p⟩ := by
        simp only [gOp, gI, this, Out.bind, gH, List.getElem?_cons_succ, List.getElem?_cons_zero, look, hDGet, dicOf, keyD, ev]
      simp only [gB]
      rw [gOp]
      simp only [gI, eg, Out.bind, gH, List.getElem?_cons_succ, List.getElem?_cons_zero, look, neS (im_ok (hg.im _ hw)) (lt_ok (hg.key hy)), ec]
      rfl)
    have ef : List.map id (List.filter (fun y : Dat => match y with | .str y => chg D y | _ => false) ((sortS (keys D)).map .str)) = ((sortS (keys D)).filter (chg D)).map .str := by
      rw [List.map_id, List.filter_map]
      rfl
    rw [ef] at a2
    simp only [gFldS, gUn, gI, Out.bindS] at a2 ⊢
    simp only [a2, Out.bind, look, hTuple, List.getElem?_cons_zero, hok]
    rfl
  have e' : g_m_init cs subs others CM ok ⟨.oi x CM [] :: ([d, Dat.str z].map .d ++ List.replicate 2 .no), p⟩ = .nx ⟨[.oi x CM (flds r (Due t z)), .d d, .d (.str z), .d (.dic (dK (Due t z))), .no], p⟩ := body
  rw [e']
  simp
end
end BD
namespace BD
open PySem PySem.Spec PyProof.Rows L2
theorem eqK_dK (u : List (Str × Str)) : ∀ k : List (Str × Str), eqK (dK u) (dK k) = some (k.all fun q => decide (val? u q.1 = some q.2))
  | [] => rfl
  | q :: k => by
    show eqK (dK u) ((.inr q.1, .str q.2) :: dK k) = _
    rw [eqK]
    dsimp only
    rw [dK_val, eqK_dK u k]
    cases h : val? u q.1 with
    | none => simp [h]
    | some w =>
      simp only [Option.map_some]
      congr 1
      rw [List.all_cons, h]
      congr 1
      rw [Bool.eq_iff_iff]
      simp only [beq_iff_eq, decide_eq_true_iff, Option.some.injEq]
      exact ⟨fun e => e.symm, fun e => e.symm⟩
def eqT (a b : List (Str × Str)) : Bool := decide (a.length = b.length) && (Ord a).all fun q => decide (val? b q.1 = some q.2)
theorem eqKs_ord (a b : List (Str × Str)) : eqKs (dK (Ord a)) (dK (Ord b)) = some (eqT a b) := by
  unfold eqKs eqT
  rw [dK_len, dK_len, ord_len, ord_len, eqK_dK]
  by_cases h : a.length = b.length
  · rw [if_pos h, decide_eq_true h, Bool.true_and]
    congr 2
    funext q
    rw [val_ord]
  · rw [if_neg h, decide_eq_false h, Bool.false_and]
theorem eqT_iff {a b : List (Str × Str)} : eqT a b = true ↔ a.length = b.length ∧ ∀ x ∈ keys a, val? b x = val? a x := by
  unfold eqT
  rw [Bool.and_eq_true, decide_eq_true_iff, List.all_eq_true]
  refine and_congr_right fun _ => ⟨fun h x hx => ?_, fun h q hq => ?_⟩
  · obtain ⟨w, ew, hw⟩ := val_some hx
    have hq : (x, w) ∈ Ord a := by
      refine List.mem_map.mpr ⟨x, mem_sort.mpr hx, ?_⟩
      rw [ew]
      rfl
    rw [ew]
    exact of_decide_eq_true (h _ hq)
  · obtain ⟨x, hx, rfl⟩ := List.mem_map.mp hq
    have hx := mem_sort.mp hx
    obtain ⟨w, ew, hw⟩ := val_some hx
    rw [decide_eq_true_iff, h x hx, ew]
    rfl
section
variable {cs subs others : List Addr} {CM : Addr} {ok : Addr → Bool} {p : Pen} {r : List Str} {d : List (Str × Str)}
def mis (CM : Addr) (r : List Str) (d : List (Str × Str)) : Dat := .ins CM (flds r d)
theorem fld_images (hok : ok CM = true) (s : DSt) : hFld "images" ok (mis CM r d) s = .ok (.dic (dK (Ord d))) s := by
  simp only [hFld, mis, hok, if_true]
  rfl
theorem fld_letters (hok : ok CM = true) (s : DSt) : hFld "letters" ok (mis CM r d) s = .ok (.tup ((sortS (keys d)).map .str)) s := by
  simp only [hFld, mis, hok, if_true]
  rw [show (flds r d).lookup ("letters" : Str) = some (.tup ((sortS (keys d)).map .str)) by
    simp only [flds]
    rw [List.lookup_cons, show (("letters" : Str) == "images") = false by decide +kernel]
    rfl]
theorem fld_changed (hok : ok CM = true) (s : DSt) : hFld "changed" ok (mis CM r d) s = .ok (.tup (((sortS (keys d)).filter (chg d)).map .str)) s := by
  simp only [hFld, mis, hok, if_true]
  rw [show (flds r d).lookup ("changed" : Str) = some (.tup (((sortS (keys d)).filter (chg d)).map .str)) by
    simp only [flds]
    rw [List.lookup_cons, show (("changed" : Str) == "images") = false by decide +kernel]
    dsimp only
    rw [List.lookup_cons, show (("changed" : Str) == "letters") = false by decide +kernel]
    dsimp only
    rw [List.lookup_cons, show (("changed" : Str) == "reached") = false by decide +kernel]
    rfl]
theorem dget_ord {x w : Str} {s : DSt} (h : val? d x = some w) : hDGet (.dic (dK (Ord d))) (.str x) s = .ok (.str w) s := by
  have ev : valD (dK (Ord d)) (.inr x) = some (.str w) := by rw [dK_val, val_ord, h]; rfl
  simp only [hDGet, dicOf, keyD, ev]
theorem get_ok (hok : ok CM = true) (hg : Good d) {x w : Str} (h : val? d x = some w) : FDof 2 0 (g_m_get cs subs others CM ok) [mis CM r d, .str x] p = .ok (.str w) p := by
  refine fdof rfl ?_
  show g_m_get cs subs others CM ok ⟨[.d (mis CM r d), .d (.str x)], p⟩ = _
  have hx : x ∈ keys d := List.mem_map.mpr ⟨_, val_mem h, rfl⟩
  have e := is_letter_lt (cs := cs) (p := p) (hg.key hx)
  have ev : valD (dK (Ord d)) (.inr x) = some (.str w) := by rw [dK_val, val_ord, h]; rfl
  have hi : gUn (hFld "images" ok) (gH 0) ⟨[.d (mis CM r d), .d (.str x)], p⟩ = .ok (.dic (dK (Ord d))) ⟨[.d (mis CM r d), .d (.str x)], p⟩ := by
    simp only [gUn, gH, List.getElem?_cons_zero, Out.bind, look, fld_images hok]
  unfold g_m_get
  rw [seq_nx (s1 := ⟨[.d (mis CM r d), .d (.str x)], p⟩) (by simp [gIfS, gNot, gB, gCall, gCons, gVar, gNil, Out.bind, Out.bindS, e, gPass])]
  rw [seq_nx (s1 := ⟨[.d (mis CM r d), .d (.str x)], p⟩) (by simp [gIfS, gB, gOp, gI, gH, hi, Out.bind, Out.bindS, look, hDNotIn, keyD, ev, gPass])]
  simp [gRet, gOp, gI, gH, hi, Out.bind, Out.bindS, look, dget_ord h]
theorem has_str (hok : ok CM = true) (x : Str) : FDof 2 0 (g_m_has cs subs others CM ok) [mis CM r d, .str x] p = .ok (.bl (decide (x ∈ keys d))) p := by
  refine fdof rfl ?_
  show g_m_has cs subs others CM ok ⟨[.d (mis CM r d), .d (.str x)], p⟩ = _
  have hi : gUn (hFld "images" ok) (gH 0) ⟨[.d (mis CM r d), .d (.str x)], p⟩ = .ok (.dic (dK (Ord d))) ⟨[.d (mis CM r d), .d (.str x)], p⟩ := by
    simp only [gUn, gH, List.getElem?_cons_zero, Out.bind, look, fld_images hok]
  have ev : (valD (dK (Ord d)) (.inr x)).isSome = decide (x ∈ keys d) := by
    rw [dK_val, val_ord]
    by_cases h : x ∈ keys d
    · obtain ⟨w, e, _⟩ := val_some h
      simp [e, h]
    · simp [val_keys.mpr h, h]
  unfold g_m_has
  have h1 : gUn (hIsi (kitT "str" cs)) (gH 1) ⟨[.d (mis CM r d), .d (.str x)], p⟩ = .ok (.bl true) ⟨[.d (mis CM r d), .d (.str x)], p⟩ := by
    simp [gUn, gH, look, Out.bind, hIsi, kitT, tyD, bTys, subTy]
  simp only [gRet, gAndV, h1, Out.bind, Out.bindS]
  simp only [gOp, gI, hi, gH, List.getElem?_cons_succ, List.getElem?_cons_zero, Out.bind, look, hDIn, keyD, ev]
/-- things of built-in types that are no texts -/
def NoStr : Dat → Prop
  | .non | .bl _ | .int _ | .lst _ | .tup _ | .dic _ => True
  | _ => False
theorem has_oth {y : Dat} (h : NoStr y) : FDof 2 0 (g_m_has cs subs others CM ok) [mis CM r d, y] p = .ok (.bl false) p := by
  refine fdof rfl ?_
  show g_m_has cs subs others CM ok ⟨[.d (mis CM r d), .d y], p⟩ = _
  unfold g_m_has
  have h1 : gUn (hIsi (kitT "str" cs)) (gH 1) ⟨[.d (mis CM r d), .d y], p⟩ = .ok (.bl false) ⟨[.d (mis CM r d), .d y], p⟩ := by
    cases y <;> first | exact h.elim | simp [gUn, gH, look, Out.bind, hIsi, kitT, tyD, bTys, subTy]
  simp only [gRet, gAndV, h1, Out.bind, Out.bindS]
theorem len_ok (hok : ok CM = true) : FDof 1 0 (g_m_len cs subs others CM ok) [mis CM r d] p = .ok (.int d.length) p := by
  refine fdof rfl ?_
  show g_m_len cs subs others CM ok ⟨[.d (mis CM r d)], p⟩ = _
  unfold g_m_len
  have hi : gUn (hFld "letters" ok) (gH 0) ⟨[.d (mis CM r d)], p⟩ = .ok (.tup ((sortS (keys d)).map .str)) ⟨[.d (mis CM r d)], p⟩ := by
    simp only [gUn, gH, List.getElem?_cons_zero, Out.bind, look, fld_letters hok]
  rw [gRet, gUn]
  simp only [gI, hi, Out.bind, Out.bindS, look, hLen, List.length_map, sort_len, keys_len]
theorem eq_mis (hok : ok CM = true) {r' : List Str} {d' : List (Str × Str)} : FDof 2 0 (g_m_eq cs subs others CM ok) [mis CM r d, mis CM r' d'] p = .ok (.bl (eqT d d')) p := by
  refine fdof rfl ?_
  show g_m_eq cs subs others CM ok ⟨[.d (mis CM r d), .d (mis CM r' d')], p⟩ = _
  have hi : gUn (hFld "images" ok) (gH 0) ⟨[.d (mis CM r d), .d (mis CM r' d')], p⟩ = .ok (.dic (dK (Ord d))) ⟨[.d (mis CM r d), .d (mis CM r' d')], p⟩ := by
    simp only [gUn, gH, List.getElem?_cons_zero, Out.bind, look, fld_images hok]
  have hi' : gUn (hFld "images" ok) (gH 1) ⟨[.d (mis CM r d), .d (mis CM r' d')], p⟩ = .ok (.dic (dK (Ord d'))) ⟨[.d (mis CM r d), .d (mis CM r' d')], p⟩ := by
    simp only [gUn, gH, List.getElem?_cons_succ, List.getElem?_cons_zero, Out.bind, look, fld_images hok]
  have h1 : gUn (hIsi (kitC CM subs others)) (gH 1) ⟨[.d (mis CM r d), .d (mis CM r' d')], p⟩ = .ok (.bl true) ⟨[.d (mis CM r d), .d (mis CM r' d')], p⟩ := by
    simp [gUn, gH, look, Out.bind, mis, hIsi, kitC, tyD]
  unfold g_m_eq
  simp only [gRet, gAndV, h1, Out.bind, Out.bindS]
  simp only [gOp, gI, hi, hi', Out.bind, look, hEq2, eqD2, dicOf, eqKs_ord]
theorem eq_oth {y : Dat} (h : NoStr y ∨ ∃ x, y = .str x) : FDof 2 0 (g_m_eq cs subs others CM ok) [mis CM r d, y] p = .ok (.bl false) p := by
  refine fdof rfl ?_
  show g_m_eq cs subs others CM ok ⟨[.d (mis CM r d), .d y], p⟩ = _
  have h1 : gUn (hIsi (kitC CM subs others)) (gH 1) ⟨[.d (mis CM r d), .d y], p⟩ = .ok (.bl false) ⟨[.d (mis CM r d), .d y], p⟩ := by
    rcases h with h | ⟨x, rfl⟩
    · cases y <;> first | exact h.elim | simp [gUn, gH, look, Out.bind, hIsi, kitC, tyD, bTys]
    · simp [gUn, gH, look, Out.bind, hIsi, kitC, tyD, bTys]
  unfold g_m_eq
  simp only [gRet, gAndV, h1, Out.bind, Out.bindS]
def word (d : List (Str × Str)) (x : Str) : Str := x ++ (":" : Str) ++ (val? d x).getD Str.empty
def shown (d : List (Str × Str)) : Str := if d.length = 0 then "-" else Txt.join " " ((sortS (keys d)).map (word d))
theorem empty_add (x : Str) : Str.empty ++ x = x := by
  show Str.append Str.empty x = x
  unfold Str.append Str.empty
  cases x
  simp
theorem add_len (a b : Str) : (a ++ b).length = a.length + b.length := by
  show (a.cps ++ b.cps).size = _
  simp [Str.length]
theorem colon_len : (":" : Str).length = 1 := by decide +kernel
theorem word_len (hg : Good d) {x : Str} (hx : x ∈ keys d) : (word d x).length ≤ 6 ∧ 3 ≤ (word d x).length := by
  obtain ⟨w, ew, hw⟩ := val_some hx
  obtain ⟨c, _, rfl⟩ := hg.key hx
  have : 1 ≤ w.length ∧ w.length ≤ 4 := (hg.im _ hw).2
  unfold word
  rw [add_len, add_len, colon_len, ew, sg_len]
  simp only [Option.getD_some]
  omega
theorem blank_len : (" " : Str).length = 1 := by decide +kernel
theorem words_sum (hg : Good d) {l : List Str} (hl : l = sortS (keys d)) : ((l.map (word d)).map (·.length)).sum + (l.map (word d)).length * (" " : Str).length ≤ 16777216 := by
  subst hl
  have h1 := sum_le (l := (sortS (keys d)).map (word d)) (k := 6) fun w hw => by
    obtain ⟨x, hx, rfl⟩ := List.mem_map.mp hw
    exact (word_len hg (mem_sort.mp hx)).1
  rw [List.length_map, sort_len, keys_len] at h1 ⊢
  rw [blank_len]
  have := hg.len
  omega
theorem str_ok (hok : ok CM = true) (hg : Good d) : FDof 1 1 (g_m_str cs subs others CM ok) [mis CM r d] p = .ok (.str (shown d)) p := by
  refine fdof rfl ?_
  show g_m_str cs subs others CM ok ⟨[.d (mis CM r d), .no], p⟩ = _
  have hi : ∀ u, gUn (hFld "images" ok) (gH 0) ⟨[.d (mis CM r d), u], p⟩ = .ok (.dic (dK (Ord d))) ⟨[.d (mis CM r d), u], p⟩ := fun u => by
    simp only [gUn, gH, List.getElem?_cons_zero, Out.bind, look, fld_images hok]
  unfold g_m_str
  have hz : hEq (.int ((Ord d).length : Int)) (.int 0) ⟨[.d (mis CM r d), .no], p⟩ = .ok (.bl (decide (d.length = 0))) ⟨[.d (mis CM r d), .no], p⟩ := by
    rw [ord_len, hEq, eqI]
    simp
  have hc : gB (gOp hEq (gI (gUn hLen (gI (gUn (hFld "images" ok) (gH 0))))) (gI (gC (.int 0)))) ⟨[.d (mis CM r d), .no], p⟩ = .ok (decide (d.length = 0)) ⟨[.d (mis CM r d), .no], p⟩ := by
    have h2 : gUn hLen (gI (gUn (hFld "images" ok) (gH 0))) ⟨[.d (mis CM r d), .no], p⟩ = .ok (.int (Ord d).length) ⟨[.d (mis CM r d), .no], p⟩ := by
      rw [gUn]
      simp only [gI, hi, Out.bind, look, hLen, dK_len]
    rw [gB, gOp]
    simp only [gI, h2, gC, Out.bind, look, hz]
  by_cases h0 : d.length = 0
  · rw [seq_rt (d := .str "-") (p := p) (by simp only [gIfS, hc, Out.bindS, h0, decide_true, if_true]; rfl)]
    rw [shown, if_pos h0]
  · rw [seq_nx (s1 := ⟨[.d (mis CM r d), .no], p⟩) (by simp only [gIfS, hc, Out.bindS, h0, decide_false, Bool.false_eq_true, if_false]; rfl)]
    rw [shown, if_neg h0]
    have e1 : gIk (gUn (hFld "images" ok) (gH 0)) ⟨[.d (mis CM r d), .no], p⟩ = .ok ((sortS (keys d)).map .str) ⟨[.d (mis CM r d), .no], p⟩ := by
      simp only [gIk, hi, Out.bind, dicOf, dK_keys, keys_ord]
    have e2 := lc_map (v := 1) (e := gJs ((gFmt (gVar 1)) :: ((gC (.str ":")) :: ((gFmt (gOp hDGet (gI (gUn (hFld "images" ok) (gH 0))) (gH 1))) :: []))) Str.empty) (fun y => match y with | .str x => .str (word d x) | _ => .non) e1 rfl (by rw [List.length_map, sort_len, keys_len]; exact sz12 hg.len) (fun y hy => by
      obtain ⟨x, hx, rfl⟩ := List.mem_map.mp hy
      have hx := mem_sort.mp hx
      obtain ⟨w, ew, hw⟩ := val_some hx
      obtain ⟨l1, l2⟩ := word_len hg hx
      show gJs _ _ ⟨[.d (mis CM r d), .d (.str x)], p⟩ = .ok (.str (word d x)) ⟨[.d (mis CM r d), .d (.str x)], p⟩
      have eg : gOp hDGet (gI (gUn (hFld "images" ok) (gH 0))) (gH 1) ⟨[.d (mis CM r d), .d (.str x)], p⟩ = .ok (.str w) ⟨[.d (mis CM r d), .d (.str x)], p⟩ := by
        simp only [gOp, gI, hi, Out.bind, gH, List.getElem?_cons_succ, List.getElem?_cons_zero, look, dget_ord ew]
      have hwd : word d x = x ++ (":" : Str) ++ w := by rw [word, ew]; rfl
      rw [hwd] at l1 ⊢
      have k3 : (x ++ (":" : Str) ++ w).length ≤ sizeLine := szl (by omega)
      rw [add_len, add_len] at l1
      have k1 : x.length ≤ sizeLine := szl (by omega)
      have k2 : (x ++ (":" : Str)).length ≤ sizeLine := szl (by rw [add_len]; omega)
      have k4 : w.length ≤ sizeLine := szl (by omega)
      rw [gJs]
      simp only [gFmt, gVar, List.getElem?_cons_succ, List.getElem?_cons_zero, Out.bind, k1, if_true, empty_add]
      rw [gJs]
      simp only [gC, Out.bind, k2, if_true]
      rw [gJs]
      simp only [gFmt, eg, Out.bind, k4, if_true, k3]
      rw [gJs])
    rw [show ((sortS (keys d)).map Dat.str).map (fun y => (match y with | .str x => .str (word d x) | _ => .non : Dat)) = ((sortS (keys d)).map (word d)).map .str by simp [Function.comp_def]] at e2
    simp only [gRet, gC, Out.bind, Out.bindS]
    rw [gUn]
    simp only [gI, e2, Out.bind, look, hJoin, strs_map, words_sum hg rfl, if_true]
end
end BD
namespace BD
open PySem PySem.Spec PyProof.Rows L2
def Bg (n : Nat) (p : Pen) : Prop := 0 ≤ p.i ∧ p.i + n ≤ 100000
theorem Bg.mono {n m : Nat} {p : Pen} (h : Bg n p) (hm : m ≤ n) : Bg m p := by
  unfold Bg at *
  omega
theorem draw_ok {m : Int} {n : Nat} {p : Pen} (hm : 0 < m) (hm2 : m ≤ 1000) (h : Bg (n + 1) p) : ∃ (k : Nat) (p' : Pen), drawF dc [.pen, .int m] p = .ok (.int k) p' ∧ (k : Int) < m ∧ Bg n p' := by
  obtain ⟨h1, h2⟩ := h
  obtain ⟨a, b, c, d⟩ := drawN_ok (c := dc) (m := m) (p := p) hm h1
  refine ⟨(drawN dc m p).1.toNat, (drawN dc m p).2, ?_, by omega, by unfold Bg; omega⟩
  have hi : p.i < 100000 := by omega
  rw [Int.toNat_of_nonneg a]
  simp only [drawF, hm, hm2, hi, and_self, if_true]
theorem draw_at {m : Int} {n i : Nat} {p : Pen} {env : List DV} (hi : env[i]? = some (.d .pen)) (hm : 0 < m) (hm2 : m ≤ 1000) (h : Bg (n + 1) p) : ∃ (k : Nat) (p' : Pen), gCall (drawF dc) (gCons (gVar i) (gCons (gC (.int m)) gNil)) ⟨env, p⟩ = .ok (.int k) ⟨env, p'⟩ ∧ (k : Int) < m ∧ Bg n p' := by
  obtain ⟨k, p', e, hk, hb⟩ := draw_ok hm hm2 h
  refine ⟨k, p', ?_, hk, hb⟩
  simp only [gCall, gCons, gVar, hi, gC, gNil, Out.bind, e]
theorem atI_nat {α : Type} {xs : List α} {k : Nat} (h : k < xs.length) : atI xs (k : Int) = some xs[k] := by
  unfold atI ixN
  simp [h]
theorem lookL {env : List DV} {p : Pen} {j : Nat} {xs : List Dat} (h : env[j]? = some (.d (.lst xs)) ∨ env[j]? = some (.ol xs)) : ∃ a, gH j ⟨env, p⟩ = .ok a ⟨env, p⟩ ∧ look ⟨env, p⟩ a = some (.lst xs) := by
  rcases h with h | h
  · exact ⟨.inr (.lst xs), by simp only [gH, h], rfl⟩
  · exact ⟨.inl j, by simp only [gH, h], by simp only [look, h]⟩
/-- a draw below the length of a list -/
theorem drawL_at {n i j : Nat} {p : Pen} {env : List DV} {xs : List Dat} (hi : env[i]? = some (.d .pen)) (hj : env[j]? = some (.d (.lst xs)) ∨ env[j]? = some (.ol xs)) (hm : 0 < xs.length) (hm2 : xs.length ≤ 1000) (h : Bg (n + 1) p) :
    ∃ (k : Nat) (p' : Pen), gCall (drawF dc) (gCons (gVar i) (gCons (gUn hLen (gH j)) gNil)) ⟨env, p⟩ = .ok (.int k) ⟨env, p'⟩ ∧ k < xs.length ∧ Bg n p' := by
  obtain ⟨k, p', e, hk, hb⟩ := draw_ok (m := xs.length) (by omega) (by omega) h
  refine ⟨k, p', ?_, by omega, hb⟩
  have el : gUn hLen (gH j) ⟨env, p⟩ = .ok (.int xs.length) ⟨env, p⟩ := by
    obtain ⟨a, e1, e2⟩ := lookL (p := p) hj
    simp only [gUn, e1, Out.bind, e2, hLen]
  simp only [gCall, gCons, gVar, hi, el, gNil, Out.bind, e]
theorem lc_run {v : Nat} {gi : DSt → Out (List Dat)} {h : Dat → DSt → Option DSt} {t : DSt → Out Bool} {e : DSt → Out Dat} {s s' : DSt} {env : List DV} {p : Pen} {items acc : List Dat} (hi : gi s = .ok items ⟨env, p⟩) (hp : plainAt [v] env = true)
    (hl : gLcL [v] h t e items [] ⟨wipeE [v] env, p⟩ = .ok acc s') : gLc [v] gi h t e s = .ok (.lst acc) ⟨backE [v] env s'.env, s'.pen⟩ := by
  simp only [gLc, gLcA, hi, Out.bind, hp, if_true, hl]
theorem erase_map {α β : Type} (f : α → β) : ∀ (l : List α) (k : Nat), (l.map f).eraseIdx k = (l.eraseIdx k).map f
  | [], k => by simp
  | x :: l, 0 => rfl
  | x :: l, k + 1 => by simp [erase_map f l k]
theorem erase_perm {α : Type} : ∀ (l : List α) (k : Nat) (h : k < l.length), (l[k] :: l.eraseIdx k).Perm l
  | [], k, h => (Nat.not_lt_zero _ h).elim
  | x :: l, 0, h => .refl _
  | x :: l, k + 1, h => by
    have h' : k < l.length := by simpa using h
    exact (List.Perm.swap x l[k] (l.eraseIdx k)).trans ((erase_perm l k h').cons x)
section
variable {ok : Addr → Bool} {CM : Addr} {tys : List Value} {GM : FI} {GS GE GH GG_ GL GT : FD}
theorem pick_ok {xs : List Dat} {n : Nat} {p : Pen} (hx : 0 < xs.length) (hx2 : xs.length ≤ 1000) (h : Bg (n + 1) p) : ∃ y p', F__law_pick ok CM tys GM GS GE GH GG_ GL GT [.pen, .lst xs] p = .ok y p' ∧ y ∈ xs ∧ Bg n p' := by
  obtain ⟨k, p', e, hk, hb⟩ := drawL_at (i := 0) (j := 1) (env := [.d .pen, .d (.lst xs)]) rfl (.inl rfl) hx hx2 h
  refine ⟨xs[k], p', fdof rfl ?_, List.getElem_mem hk, hb⟩
  show g__law_pick ok CM tys GM GS GE GH GG_ GL GT ⟨[.d .pen, .d (.lst xs)], p⟩ = _
  simp only [g__law_pick, gRet, gOp, gI, gH, List.getElem?_cons_succ, List.getElem?_cons_zero, Out.bind, e, look, hIx, atI_nat hk, Out.bindS]
theorem pick_at {xs : List Dat} {n i j : Nat} {p : Pen} {env : List DV} (hi : env[i]? = some (.d .pen)) (hj : env[j]? = some (.d (.lst xs))) (hx : 0 < xs.length) (hx2 : xs.length ≤ 1000) (h : Bg (n + 1) p) :
    ∃ y p', gCall (F__law_pick ok CM tys GM GS GE GH GG_ GL GT) (gCons (gVar i) (gCons (gVar j) gNil)) ⟨env, p⟩ = .ok y ⟨env, p'⟩ ∧ y ∈ xs ∧ Bg n p' := by
  obtain ⟨y, p', e, hy, hb⟩ := pick_ok (ok := ok) (CM := CM) (tys := tys) (GM := GM) (GS := GS) (GE := GE) (GH := GH) (GG_ := GG_) (GL := GL) (GT := GT) hx hx2 h
  refine ⟨y, p', ?_, hy, hb⟩
  simp only [gCall, gCons, gVar, hi, hj, gNil, Out.bind, e]
/-- a pop at a drawn place -/
theorem pop_at {n i j : Nat} {p : Pen} {env : List DV} {l : List Str} (hi : env[i]? = some (.d .pen)) (hj : env[j]? = some (.ol (l.map .str))) (hm : 0 < l.length) (hm2 : l.length ≤ 1000) (h : Bg (n + 1) p) :
    ∃ (k : Nat) (hk : k < l.length) (p' : Pen), gPopAt j (gCall (drawF dc) (gCons (gVar i) (gCons (gUn hLen (gH j)) gNil))) ⟨env, p⟩ = .ok (.str l[k]) ⟨env.set j (.ol ((l.eraseIdx k).map .str)), p'⟩ ∧ Bg n p' := by
  obtain ⟨k, p', e, hk, hb⟩ := drawL_at (i := i) (j := j) (xs := l.map .str) hi (.inr hj) (by simpa using hm) (by simpa using hm2) h
  have hk' : k < l.length := by simpa using hk
  refine ⟨k, hk', p', ?_, hb⟩
  have hc : (0 : Int) ≤ k ∧ (k : Int) < ((l.map Dat.str).length : Int) ∧ (k : Int) < 1000000 := ⟨by omega, by omega, by rw [List.length_map] at hk; omega⟩
  have e1 : (l.map Dat.str)[k]? = some (.str l[k]) := by simp [hk']
  have e2 : (l.map Dat.str).eraseIdx k = (l.eraseIdx k).map .str := erase_map _ _ _
  have ho : isOl ⟨env, p⟩ j = true := by simp only [isOl, hj]
  simp only [gPopAt, ho, if_true, e, Out.bind, popAt, hj, hc, and_self, Int.toNat_natCast, e1, e2]
theorem range_at {n : Nat} (h : n ≤ 1000) {g : DSt → Out Dat} {s s1 : DSt} (e : g s = .ok (.int n) s1) : gIr (gCons g gNil) s = .ok ((List.range n).map fun (i : Nat) => .int (i : Int)) s1 := by
  have hc : -1000000 ≤ (n : Int) ∧ (n : Int) ≤ 1000000 := by omega
  simp only [gIr, gCons, gNil, e, Out.bind, hc, and_self, if_true, rangeD, Int.toNat_natCast]
def abcL : List Str := chars "abcdefghijklmnopqrstuvwxyz"
theorem abc_lt : ∀ x ∈ abcL, Lt x := chars_lt fun c hc => mem_letters.mp hc
theorem abc_nd : abcL.Nodup := by decide +kernel
theorem abc_len : abcL.length = 26 := by decide +kernel
theorem listD_abc : listD (.str "abcdefghijklmnopqrstuvwxyz") = some (abcL.map .str) := by
  have hz : (("abcdefghijklmnopqrstuvwxyz" : Str)).cps.size ≤ sizeLine := Nat.le_trans (m := 26) (by decide +kernel) (szl (by decide))
  simp only [listD, hz, if_true, signs_chars]
  rfl
theorem some_ok {m n : Nat} {p : Pen} (hm : m ≤ 12) (h : Bg (n + m) p) : ∃ (l : List Str) (p' : Pen), F__law_some_letters ok CM tys GM GS GE GH GG_ GL GT [.pen, .int m] p = .ok (.lst (l.map .str)) p' ∧ l.length = m ∧ l.Nodup ∧ (∀ x ∈ l, Lt x) ∧ Bg n p' := by
  have e0 : gIr (gCons (gVar 1) gNil) ⟨[.d .pen, .d (.int m), .ol (abcL.map .str), .no], p⟩ = .ok ((List.range m).map fun (i : Nat) => .int (i : Int)) ⟨[.d .pen, .d (.int m), .ol (abcL.map .str), .no], p⟩ := range_at (by omega) rfl
  obtain ⟨acc, s', e1, pool, l, q, rfl, rfl, h1, h2, h3, h4, h5⟩ := lcl_inv (v := 3) (t := gYes) (e := gPopAt 2 (gCall (drawF dc) (gCons (gVar 0) (gCons (gUn hLen (gH 2)) gNil))))
    (fun k acc s => ∃ (pool l : List Str) (q : Pen), s = ⟨[.d .pen, .d (.int m), .ol (pool.map .str), .no], q⟩ ∧ acc = l.map .str ∧ (l ++ pool).Nodup ∧ (∀ x ∈ l ++ pool, Lt x) ∧ l.length + pool.length = 26 ∧ l.length + k = m ∧ Bg (n + k) q)
    ((List.range m).map fun (i : Nat) => .int (i : Int)) [] ⟨[.d .pen, .d (.int m), .ol (abcL.map .str), .no], p⟩ m (by simp) (by simp; exact sz12 hm)
    ⟨abcL, [], p, rfl, rfl, by simpa using abc_nd, by simpa using abc_lt, by simp [abc_len], by simp, h⟩ (fun d _ k acc s hs => by
      obtain ⟨pool, l, q, rfl, rfl, h1, h2, h3, h4, h5⟩ := hs
      refine ⟨true, ⟨[.d .pen, .d (.int m), .ol (pool.map .str), .d d], q⟩, rfl, (fun z => nomatch z), fun _ => ?_⟩
      obtain ⟨j, hj, q', e, hb⟩ := pop_at (i := 0) (j := 2) (env := [.d .pen, .d (.int m), .ol (pool.map .str), .d d]) (l := pool) (p := q) (n := n + k) rfl rfl (by omega) (by omega) h5
      refine ⟨_, _, e, rfl, pool.eraseIdx j, l ++ [pool[j]], q', rfl, by simp, ?_, ?_, ?_, ?_, hb⟩
      · rw [List.append_assoc]
        have hp : (([pool[j]] : List Str) ++ pool.eraseIdx j).Perm pool := by
          exact erase_perm pool j hj
        exact ((hp.append_left l).nodup_iff).mpr h1
      · intro x hx
        have hp : (([pool[j]] : List Str) ++ pool.eraseIdx j).Perm pool := by
          exact erase_perm pool j hj
        rw [List.append_assoc] at hx
        exact h2 x (((hp.append_left l).mem_iff).mp hx)
      · have := List.length_eraseIdx_of_lt hj
        rw [List.length_append, this]
        simp
        omega
      · rw [List.length_append]
        simp
        omega)
  rw [List.length_map, List.length_range, Nat.sub_self] at h4 h5
  refine ⟨l, q, fdof rfl ?_, by omega, (List.nodup_append.mp h1).1, fun x hx => h2 x (List.mem_append_left _ hx), h5⟩
  show g__law_some_letters ok CM tys GM GS GE GH GG_ GL GT ⟨[.d .pen, .d (.int m), .no, .no], p⟩ = _
  unfold g__law_some_letters
  rw [seq_nx (s1 := ⟨[.d .pen, .d (.int m), .ol (abcL.map .str), .no], p⟩) (by
    simp only [gSetN, gUnN, gI, gC, Out.bind, Out.bindS, look, hNlist, listD_abc]
    rfl)]
  have e2 := lc_run (v := 3) e0 rfl e1
  simp only [gRet, e2, Out.bindS]
end
end BD
namespace BD
open PySem PySem.Spec PyProof.Rows L2
section
variable {ok : Addr → Bool} {CM : Addr} {tys : List Value} {GM : FI} {GS GE GH GG_ GL GT : FD}
theorem add_im {x y : Str} (hx : Lt x) (hy : Lt y) : Im (x ++ y) := by
  obtain ⟨c, hc, rfl⟩ := hx
  obtain ⟨e, he, rfl⟩ := hy
  have hl : (sg c ++ sg e).cps.toList = [c, e] := rfl
  refine ⟨fun z hz => ?_, by rw [add_len, sg_len, sg_len]; decide, by rw [add_len, sg_len, sg_len]; decide⟩
  rw [hl] at hz
  simp at hz
  rcases hz with rfl | rfl
  · exact hc
  · exact he
theorem hAddS {x y : Str} {s : DSt} (hx : Lt x) (hy : Lt y) : hAdd (.str x) (.str y) s = .ok (.str (x ++ y)) s := by
  have : x.length + y.length ≤ sizeLine := by
    have h1 := hx.im.2.2
    have h2 := hy.im.2.2
    exact szl (by omega)
  simp only [hAdd, this, if_true]
theorem bg_sub {a b : Nat} {p : Pen} (h : Bg a p) (hb : b ≤ a) : Bg b p := h.mono hb
/-- the loop of escaped -/
theorem escaped_loop {some' : List Str} {n : Nat} (h0 : 0 < some'.length) (hlt : ∀ x ∈ some', Lt x) : ∀ (rest : List Str) (tails : List Str) (t : List (Str × Str)) (u v : DV) (p : Pen), (∀ x ∈ rest, Lt x) → (∀ x ∈ tails, Lt x) → rest.length ≤ tails.length → tails.length ≤ 1000 → (keys t ++ rest).Nodup → (∀ q ∈ t, Im q.2) → t.length + rest.length ≤ 12 → Bg (n + 2 * rest.length) p →
    ∃ (t' : List (Str × Str)) (tails' : List Str) (u' v' : DV) (p' : Pen), gLoop (hName 4) (gSeq (gSet 5 (gAndV (gOp hNe (gH 4) (gI (gOp hIx (gH 1) (gI (gC (.int 0)))))) (gOp hEq (gI (gCall (drawF dc) (gCons (gVar 0) (gCons (gC (.int 2)) gNil)))) (gI (gC (.int 0))))))
      (gDPut 3 (gVar 4) (gIf (gB (gVar 5)) (gVar 4) (gOp hAdd (gI (gOp hIx (gH 1) (gI (gC (.int 0))))) (gI (gPopAt 2 (gCall (drawF dc) (gCons (gVar 0) (gCons (gUn hLen (gH 2)) gNil)))))))))
      (rest.map .str) ⟨[.d .pen, .d (.lst (some'.map .str)), .ol (tails.map .str), .od (dK t), u, v], p⟩ = .nx ⟨[.d .pen, .d (.lst (some'.map .str)), .ol (tails'.map .str), .od (dK t'), u', v'], p'⟩ ∧ keys t' = keys t ++ rest ∧ (∀ q ∈ t', Im q.2) ∧ Bg n p'
  | [], tails, t, u, v, p, _, _, _, _, _, hi, _, hb => ⟨t, tails, u, v, p, rfl, by simp, hi, by simpa using hb⟩
  | x :: rest, tails, t, u, v, p, hr, ht, hl, hl2, hn, hi, h12, hb => by
    have hx := hr x (List.mem_cons_self ..)
    rw [List.length_cons] at hl h12 hb
    have h1 : atI (some'.map Dat.str) 0 = some (.str some'[0]) := by
      have := atI_nat (xs := some'.map Dat.str) (k := 0) (by simpa using h0)
      simpa using this
    have hf := hlt _ (List.getElem_mem h0)
    have hxt : x ∉ keys t := by
      rw [List.nodup_append] at hn
      exact fun hm => hn.2.2 _ hm _ (List.mem_cons_self ..) rfl
    have hn' : ∀ w, (keys (putT t x w) ++ rest).Nodup := fun w => by rw [keys_put_new hxt, List.append_assoc]; exact hn
    have hi' : ∀ w, Im w → ∀ q ∈ putT t x w, Im q.2 := fun w hw q hq => by
      rcases mem_put hq with h | rfl
      · exact hi q h
      · exact hw
    have hlen : ∀ w, (putT t x w).length = t.length + 1 := fun w => by rw [put_new hxt]; simp
    have hsz : (dK t).length < sizeLine := by rw [dK_len, sizeLine_eq]; omega
    have ix : ∀ (a b c d : DV) (q : Pen), gOp hIx (gH 1) (gI (gC (.int 0))) ⟨[.d .pen, .d (.lst (some'.map .str)), a, b, c, d], q⟩ = .ok (.str some'[0]) ⟨[.d .pen, .d (.lst (some'.map .str)), a, b, c, d], q⟩ := fun a b c d q => by
      simp only [gOp, gH, gI, gC, Out.bind, List.getElem?_cons_succ, List.getElem?_cons_zero, look, hIx, h1]
    -- the choice
    obtain ⟨stays, p1, e1, hb1⟩ : ∃ (b : Bool) (p1 : Pen), gSet 5 (gAndV (gOp hNe (gH 4) (gI (gOp hIx (gH 1) (gI (gC (.int 0)))))) (gOp hEq (gI (gCall (drawF dc) (gCons (gVar 0) (gCons (gC (.int 2)) gNil)))) (gI (gC (.int 0))))) ⟨[.d .pen, .d (.lst (some'.map .str)), .ol (tails.map .str), .od (dK t), .d (.str x), v], p⟩ = .nx ⟨[.d .pen, .d (.lst (some'.map .str)), .ol (tails.map .str), .od (dK t), .d (.str x), .d (.bl b)], p1⟩ ∧ Bg (n + 2 * rest.length + 1) p1 := by
      have ne : gOp hNe (gH 4) (gI (gOp hIx (gH 1) (gI (gC (.int 0))))) ⟨[.d .pen, .d (.lst (some'.map .str)), .ol (tails.map .str), .od (dK t), .d (.str x), v], p⟩ = .ok (.bl (!decide (x = some'[0]))) ⟨[.d .pen, .d (.lst (some'.map .str)), .ol (tails.map .str), .od (dK t), .d (.str x), v], p⟩ := by
        rw [gOp]
        simp only [gH, List.getElem?_cons_succ, List.getElem?_cons_zero, Out.bind, gI]
        rw [ix]
        simp only [look, neS (lt_ok hx) (lt_ok hf)]
      by_cases hxe : x = some'[0]
      · refine ⟨false, p, ?_, bg_sub hb (by omega)⟩
        rw [decide_eq_true hxe] at ne
        simp only [gSet, gAndV, ne, Out.bind, Out.bindS, Bool.not_true]
        rfl
      · obtain ⟨k, q, ed, hk, hq⟩ := draw_at (m := 2) (i := 0) (env := [.d .pen, .d (.lst (some'.map .str)), .ol (tails.map .str), .od (dK t), .d (.str x), v]) rfl (by decide) (by decide) (show Bg (n + 2 * rest.length + 1 + 1) p from bg_sub hb (by omega))
        refine ⟨decide ((k : Int) = 0), q, ?_, hq⟩
        rw [decide_eq_false hxe] at ne
        simp only [gSet, gAndV, ne, Out.bind, Out.bindS, Bool.not_false]
        rw [gOp]
        simp only [gI, ed, gC, Out.bind, look, hEq, eqI]
        rfl
    cases stays with
    | true =>
      obtain ⟨t', tails', u', v', p', e, k1, k2, k3⟩ := escaped_loop (n := n) h0 hlt rest tails (putT t x x) (.d (.str x)) (.d (.bl true)) p1 (fun y hy => hr y (List.mem_cons_of_mem _ hy)) ht (by omega) hl2 (hn' x) (hi' x hx.im) (by rw [hlen]; omega) (bg_sub hb1 (by omega))
      refine ⟨t', tails', u', v', p', ?_, by rw [k1, keys_put_new hxt, List.append_assoc]; rfl, k2, k3⟩
      rw [List.map_cons, gLoop]
      simp only [hName, List.set_cons_succ, List.set_cons_zero]
      rw [seq_nx e1]
      have e2 : gDPut 3 (gVar 4) (gIf (gB (gVar 5)) (gVar 4) (gOp hAdd (gI (gOp hIx (gH 1) (gI (gC (.int 0))))) (gI (gPopAt 2 (gCall (drawF dc) (gCons (gVar 0) (gCons (gUn hLen (gH 2)) gNil))))))) ⟨[.d .pen, .d (.lst (some'.map .str)), .ol (tails.map .str), .od (dK t), .d (.str x), .d (.bl true)], p1⟩ = .nx ⟨[.d .pen, .d (.lst (some'.map .str)), .ol (tails.map .str), .od (dK (putT t x x)), .d (.str x), .d (.bl true)], p1⟩ := by
        simp only [gDPut, gIf, gB, gVar, List.getElem?_cons_succ, List.getElem?_cons_zero, Out.bind, Out.bindS, if_true, isOd, dput, keyD, hsz, dK_put]
        rfl
      rw [e2]
      exact e
    | false =>
      obtain ⟨k, hk, q, ep, hq⟩ := pop_at (i := 0) (j := 2) (env := [.d .pen, .d (.lst (some'.map .str)), .ol (tails.map .str), .od (dK t), .d (.str x), .d (.bl false)]) (l := tails) (p := p1) rfl rfl (by omega) hl2 hb1
      have hy := ht _ (List.getElem_mem hk)
      obtain ⟨t', tails', u', v', p', e, k1, k2, k3⟩ := escaped_loop (n := n) h0 hlt rest (tails.eraseIdx k) (putT t x (some'[0] ++ tails[k])) (.d (.str x)) (.d (.bl false)) q (fun y hy => hr y (List.mem_cons_of_mem _ hy)) (fun y hy => ht y (List.mem_of_mem_eraseIdx hy)) (by rw [List.length_eraseIdx_of_lt hk]; omega) (by rw [List.length_eraseIdx_of_lt hk]; omega) (hn' _) (hi' _ (add_im hf hy)) (by rw [hlen]; omega) hq
      refine ⟨t', tails', u', v', p', ?_, by rw [k1, keys_put_new hxt, List.append_assoc]; rfl, k2, k3⟩
      rw [List.map_cons, gLoop]
      simp only [hName, List.set_cons_succ, List.set_cons_zero]
      rw [seq_nx e1]
      have e2 : gDPut 3 (gVar 4) (gIf (gB (gVar 5)) (gVar 4) (gOp hAdd (gI (gOp hIx (gH 1) (gI (gC (.int 0))))) (gI (gPopAt 2 (gCall (drawF dc) (gCons (gVar 0) (gCons (gUn hLen (gH 2)) gNil))))))) ⟨[.d .pen, .d (.lst (some'.map .str)), .ol (tails.map .str), .od (dK t), .d (.str x), .d (.bl false)], p1⟩ = .nx ⟨[.d .pen, .d (.lst (some'.map .str)), .ol ((tails.eraseIdx k).map .str), .od (dK (putT t x (some'[0] ++ tails[k]))), .d (.str x), .d (.bl false)], q⟩ := by
        have ea : gOp hAdd (gI (gOp hIx (gH 1) (gI (gC (.int 0))))) (gI (gPopAt 2 (gCall (drawF dc) (gCons (gVar 0) (gCons (gUn hLen (gH 2)) gNil))))) ⟨[.d .pen, .d (.lst (some'.map .str)), .ol (tails.map .str), .od (dK t), .d (.str x), .d (.bl false)], p1⟩ = .ok (.str (some'[0] ++ tails[k])) ⟨[.d .pen, .d (.lst (some'.map .str)), .ol ((tails.eraseIdx k).map .str), .od (dK t), .d (.str x), .d (.bl false)], q⟩ := by
          rw [gOp]
          simp only [gI]
          rw [ix]
          simp only [Out.bind]
          rw [ep]
          simp only [look, hAddS hf hy]
          rfl
        rw [gDPut, gIf]
        simp only [gB, gVar, List.getElem?_cons_succ, List.getElem?_cons_zero, Out.bind, Bool.false_eq_true, if_false, ea, Out.bindS, isOd, dput, keyD, hsz, dK_put, if_true]
        rfl
      rw [e2]
      exact e
theorem escaped_ok {l : List Str} {n : Nat} {p : Pen} (h0 : 0 < l.length) (h12 : l.length ≤ 12) (hn : l.Nodup) (hlt : ∀ x ∈ l, Lt x) (hb : Bg (n + 2 * l.length) p) :
    ∃ (t : List (Str × Str)) (p' : Pen), F__law_escaped ok CM tys GM GS GE GH GG_ GL GT [.pen, .lst (l.map .str)] p = .ok (.dic (dK t)) p' ∧ keys t = l ∧ (∀ q ∈ t, Im q.2) ∧ Bg n p' := by
  obtain ⟨t, tails, u, v, p', e, k1, k2, k3⟩ := escaped_loop (some' := l) (n := n) h0 hlt l l [] .no .no p hlt hlt (Nat.le_refl _) (by omega) (by simpa [keys] using hn) (fun q hq => nomatch hq) (by simpa using h12) hb
  refine ⟨t, p', fdof rfl ?_, by simpa [keys] using k1, k2, k3⟩
  show g__law_escaped ok CM tys GM GS GE GH GG_ GL GT ⟨[.d .pen, .d (.lst (l.map .str)), .no, .no, .no, .no], p⟩ = _
  unfold g__law_escaped
  rw [seq_nx (s1 := ⟨[.d .pen, .d (.lst (l.map .str)), .ol (l.map .str), .od (dK []), .no, .no], p⟩) (by
    simp only [gPar, gNcons, gUnN, gH, List.getElem?_cons_succ, List.getElem?_cons_zero, Out.bind, Out.bindS, look, hNlist, listD, gNd0, gNnil]
    rfl)]
  rw [seq_nx (s1 := ⟨[.d .pen, .d (.lst (l.map .str)), .ol (tails.map .str), .od (dK t), u, v], p'⟩) (by
    rw [← e]
    simp only [gFor, gIl, gVar, List.getElem?_cons_succ, List.getElem?_cons_zero, Out.bind, Out.bindS])]
  simp only [gRet, gVar, List.getElem?_cons_succ, List.getElem?_cons_zero, Out.bindS]
end
end BD
namespace BD
open PySem PySem.Spec PyProof.Rows L2
theorem join_nil_cps : ∀ l : List Str, (Txt.join ("" : Str) l).cps.toList = (l.map (·.cps.toList)).flatten := by
  intro l
  rw [TL.join_eq]
  induction l with
  | nil => rfl
  | cons x l ih =>
    cases l with
    | nil => simp [Str.join]
    | cons y l =>
      show (x ++ ("" : Str) ++ Str.join ("" : Str) (y :: l)).cps.toList = _
      show ((x.cps ++ ("" : Str).cps) ++ (Str.join ("" : Str) (y :: l)).cps).toList = _
      have h0 : ("" : Str).cps = #[] := by decide +kernel
      rw [h0]
      simp only [Array.append_empty, Array.toList_append, ih, List.map_cons, List.flatten_cons]
theorem join_wd {l : List Str} (h : ∀ x ∈ l, Lt x) : Wd (Txt.join ("" : Str) l) ∧ (Txt.join ("" : Str) l).length = l.length ∧ (∀ x ∈ chars (Txt.join ("" : Str) l), x ∈ l) := by
  have e := join_nil_cps l
  refine ⟨fun c hc => ?_, ?_, fun x hx => ?_⟩
  · rw [e] at hc
    obtain ⟨m, hm, hcm⟩ := List.mem_flatten.mp hc
    obtain ⟨x, hx, rfl⟩ := List.mem_map.mp hm
    exact (h x hx).im.1 c hcm
  · have : (Txt.join ("" : Str) l).length = (Txt.join ("" : Str) l).cps.toList.length := by simp [Str.length]
    rw [this, e]
    clear this e
    induction l with
    | nil => rfl
    | cons x l ih =>
      obtain ⟨c, _, rfl⟩ := h x (List.mem_cons_self ..)
      rw [List.map_cons, List.flatten_cons, List.length_append, ih fun y hy => h y (List.mem_cons_of_mem _ hy), sg_list]
      simp
      omega
  · obtain ⟨c, hc, rfl⟩ := List.mem_map.mp hx
    rw [e] at hc
    obtain ⟨m, hm, hcm⟩ := List.mem_flatten.mp hc
    obtain ⟨y, hy, rfl⟩ := List.mem_map.mp hm
    obtain ⟨c', _, rfl⟩ := h y hy
    rw [sg_list] at hcm
    simp at hcm
    subst hcm
    exact hy
theorem join0_c {l : List Str} (h : ∀ x ∈ l, Lt x) (hl : l.length ≤ 2000) : (l.map (·.length)).sum + l.length * ("" : Str).length ≤ 16777216 := by
  have h1 := sum_le (l := l) (k := 1) fun x hx => by obtain ⟨c, _, rfl⟩ := h x hx; exact Nat.le_refl _
  have h0 : ("" : Str).length = 0 := by decide +kernel
  rw [h0]
  omega
section
variable {ok : Addr → Bool} {CM : Addr} {tys : List Value} {GM : FI} {GS GE GH GG_ GL GT : FD}
/-- letters picked, one for each of a range -/
theorem picks_ok {v i j k n : Nat} {t : DSt → Out Bool} {env : List DV} {p : Pen} {l : List Str} {gi : DSt → Out (List Dat)} {s : DSt} (hw : wipeE [v] env = env) (hvn : env[v]? = some .no) (hi : env[i]? = some (.d .pen)) (hj : env[j]? = some (.d (.lst (l.map .str)))) (hvi : v ≠ i) (hvj : v ≠ j)
    (ht : ∀ d q, t ⟨env.set v (.d d), q⟩ = .ok true ⟨env.set v (.d d), q⟩) (hl : 0 < l.length) (hl2 : l.length ≤ 12) (hlt : ∀ x ∈ l, Lt x) (hk : k ≤ 12) (hg : gi s = .ok ((List.range k).map fun (i : Nat) => .int (i : Int)) ⟨env, p⟩) (hb : Bg (n + k) p) :
    ∃ (m : List Str) (p' : Pen), gLc [v] gi (hName v) t (gCall (F__law_pick ok CM tys GM GS GE GH GG_ GL GT) (gCons (gVar i) (gCons (gVar j) gNil))) s = .ok (.lst (m.map .str)) ⟨env, p'⟩ ∧ m.length = k ∧ (∀ x ∈ m, x ∈ l) ∧ Bg n p' := by
  have hvl : v < env.length := by
    rcases Nat.lt_or_ge v env.length with h | h
    · exact h
    · rw [List.getElem?_eq_none h] at hvn; cases hvn
  obtain ⟨acc, s', e1, m, q, rfl, rfl, h1, h2, h3⟩ := lcl_inv (v := v) (t := t) (e := gCall (F__law_pick ok CM tys GM GS GE GH GG_ GL GT) (gCons (gVar i) (gCons (gVar j) gNil)))
    (fun c acc s => ∃ (m : List Str) (q : Pen), s = ⟨env, q⟩ ∧ acc = m.map .str ∧ m.length + c = k ∧ (∀ x ∈ m, x ∈ l) ∧ Bg (n + c) q)
    ((List.range k).map fun (i : Nat) => .int (i : Int)) [] ⟨env, p⟩ k (by simp) (by simp; exact sz12 hk)
    ⟨[], p, rfl, rfl, by simp, by simp, hb⟩ (fun d _ c acc s hs => by
      obtain ⟨m, q, rfl, rfl, h1, h2, h3⟩ := hs
      refine ⟨true, ⟨env.set v (.d d), q⟩, ht d q, (fun z => nomatch z), fun _ => ?_⟩
      have hi' : (env.set v (.d d))[i]? = some (.d .pen) := by rw [List.getElem?_set_ne hvi]; exact hi
      have hj' : (env.set v (.d d))[j]? = some (.d (.lst (l.map .str))) := by rw [List.getElem?_set_ne hvj]; exact hj
      obtain ⟨y, q', e, hy, hb'⟩ := pick_at (ok := ok) (CM := CM) (tys := tys) (GM := GM) (GS := GS) (GE := GE) (GH := GH) (GG_ := GG_) (GL := GL) (GT := GT) (n := n + c) hi' hj' (by simpa using hl) (by simp; omega) h3
      obtain ⟨x, hx, rfl⟩ := List.mem_map.mp hy
      refine ⟨_, _, e, plain_set _ _ _, m ++ [x], q', ?_, by simp, ?_, ?_, hb'⟩
      · simp only [wipe_set, hw]
      · rw [List.length_append]; simp; omega
      · intro z hz
        rcases List.mem_append.mp hz with hz | hz
        · exact h2 z hz
        · rw [show z = x by simpa using hz]; exact hx)
  rw [List.length_map, List.length_range, Nat.sub_self] at h1 h3
  have hp : plainAt [v] env = true := by simp [plainAt, List.getD, hvn, DV.isO]
  have e2 := lc_run (v := v) hg hp (by rw [hw]; exact e1)
  refine ⟨m, q, ?_, by omega, h2, h3⟩
  rw [e2]
  have : backE [v] env env = env := by
    have := back_wipe v env
    rw [hw] at this
    exact this
  simp only [this]
theorem any_ok {l : List Str} {n : Nat} {p : Pen} (h0 : 0 < l.length) (h12 : l.length ≤ 12) (hlt : ∀ x ∈ l, Lt x) (hb : Bg (n + 5) p) :
    ∃ (w : Str) (p' : Pen), F__law_any_image ok CM tys GM GS GE GH GG_ GL GT [.pen, .lst (l.map .str)] p = .ok (.str w) p' ∧ Im w ∧ Bg n p' := by
  obtain ⟨y, p1, e1, hy, hb1⟩ := pick_ok (ok := ok) (CM := CM) (tys := tys) (GM := GM) (GS := GS) (GE := GE) (GH := GH) (GG_ := GG_) (GL := GL) (GT := GT) (xs := [.int 1, .int 1, .int 2, .int 2, .int 3, .int 4]) (by decide) (by decide) (show Bg (n + 4 + 1) p from hb)
  obtain ⟨k, rfl, hk1, hk2⟩ : ∃ k : Nat, y = .int k ∧ 1 ≤ k ∧ k ≤ 4 := by
    simp at hy
    rcases hy with rfl | rfl | rfl | rfl
    · exact ⟨1, rfl, by decide, by decide⟩
    · exact ⟨2, rfl, by decide, by decide⟩
    · exact ⟨3, rfl, by decide, by decide⟩
    · exact ⟨4, rfl, by decide, by decide⟩
  obtain ⟨m, q, e2, hm, hin, hb2⟩ := picks_ok (ok := ok) (CM := CM) (tys := tys) (GM := GM) (GS := GS) (GE := GE) (GH := GH) (GG_ := GG_) (GL := GL) (GT := GT) (v := 3) (i := 0) (j := 1) (k := k) (n := n) (t := gYes) (env := [.d .pen, .d (.lst (l.map .str)), .d (.int k), .no]) (p := p1) (l := l) (gi := gIr (gCons (gVar 2) gNil)) (s := ⟨[.d .pen, .d (.lst (l.map .str)), .d (.int k), .no], p1⟩) rfl rfl rfl rfl (by decide) (by decide) (fun _ _ => rfl) h0 h12 hlt (by omega) (range_at (by omega) rfl) (hb1.mono (by omega))
  have hlm : ∀ x ∈ m, Lt x := fun x hx => hlt x (hin x hx)
  obtain ⟨w1, w2, _⟩ := join_wd hlm
  refine ⟨Txt.join ("" : Str) m, q, fdof rfl ?_, ⟨w1, by omega, by omega⟩, hb2⟩
  show g__law_any_image ok CM tys GM GS GE GH GG_ GL GT ⟨[.d .pen, .d (.lst (l.map .str)), .no, .no], p⟩ = _
  unfold g__law_any_image
  have hsz : ([Dat.int 1, .int 1, .int 2, .int 2, .int 3, .int 4] : List Dat).length ≤ sizeLine := sz12 (by decide)
  rw [seq_nx (s1 := ⟨[.d .pen, .d (.lst (l.map .str)), .d (.int k), .no], p1⟩) (by
    simp only [gSet, gCall, gCons, gVar, List.getElem?_cons_zero, gLst, gC, gNil, Out.bind, hsz, if_true, e1, Out.bindS]
    rfl)]
  simp only [gRet, gC, Out.bind, Out.bindS]
  rw [gUn]
  simp only [gI, e2, Out.bind, look, hJoin, strs_map, join0_c hlm (by omega), if_true]
end
end BD
namespace BD
open PySem PySem.Spec PyProof.Rows L2
theorem pairs_map : ∀ u : List (Str × Str), pairsD (u.map fun q => .tup [.str q.1, .str q.2]) = some (dK u)
  | [] => rfl
  | q :: u => by
    rw [List.map_cons, pairsD, pairs_map u]
    rfl
theorem hII_lt {a b : Int} {s : DSt} : hII (fun i j => .bl (decide (i < j))) (.int a) (.int b) s = .ok (.bl (decide (a < b))) s := rfl
theorem hII_gt {a b : Int} {s : DSt} : hII (fun i j => .bl (decide (j < i))) (.int a) (.int b) s = .ok (.bl (decide (b < a))) s := rfl
/-- a table filled letter by letter -/
theorem put_loop {b : DSt → OutS} {a0 a1 a2 : DV} {c n : Nat} (L : Nat → DV → Prop)
    (step : ∀ (x : Str) (t : List (Str × Str)) (left : DV) (p : Pen) (m k : Nat), Lt x → L (m + 1) left → (dK t).length < sizeLine → Bg (k + c) p → ∃ (w : Str) (left' : DV) (p' : Pen), b ⟨[a0, a1, a2, left, .od (dK t), .d (.str x)], p⟩ = .nx ⟨[a0, a1, a2, left', .od (dK (putT t x w)), .d (.str x)], p'⟩ ∧ Im w ∧ L m left' ∧ Bg k p') :
    ∀ (rest : List Str) (t : List (Str × Str)) (left u : DV) (p : Pen), (∀ x ∈ rest, Lt x) → L rest.length left → (keys t ++ rest).Nodup → (∀ q ∈ t, Im q.2) → t.length + rest.length ≤ 12 → Bg (n + c * rest.length) p →
    ∃ (t' : List (Str × Str)) (left' u' : DV) (p' : Pen), gLoop (hName 5) b (rest.map .str) ⟨[a0, a1, a2, left, .od (dK t), u], p⟩ = .nx ⟨[a0, a1, a2, left', .od (dK t'), u'], p'⟩ ∧ keys t' = keys t ++ rest ∧ (∀ q ∈ t', Im q.2) ∧ u'.isO = (if rest = [] then u.isO else false) ∧ Bg n p'
  | [], t, left, u, p, _, _, _, hi, _, hb => ⟨t, left, u, p, rfl, by simp, hi, by simp, by simpa using hb⟩
  | x :: rest, t, left, u, p, hr, hL, hn, hi, h12, hb => by
    rw [List.length_cons] at h12 hb hL
    have hxt : x ∉ keys t := by
      rw [List.nodup_append] at hn
      exact fun hm => hn.2.2 _ hm _ (List.mem_cons_self ..) rfl
    obtain ⟨w, left1, p1, e1, hw, hL1, hb1⟩ := step x t left p rest.length (n + c * rest.length) (hr x (List.mem_cons_self ..)) hL (by rw [dK_len, sizeLine_eq]; omega) (by rw [Nat.mul_add] at hb; exact hb.mono (by omega))
    obtain ⟨t', left', u', p', e, k1, k2, k3, k4⟩ := put_loop (n := n) L step rest (putT t x w) left1 (.d (.str x)) p1 (fun y hy => hr y (List.mem_cons_of_mem _ hy)) hL1 (by rw [keys_put_new hxt, List.append_assoc]; exact hn) (fun q hq => by
      rcases mem_put hq with h | rfl
      · exact hi q h
      · exact hw) (by rw [put_new hxt]; simp; omega) hb1
    refine ⟨t', left', u', p', ?_, by rw [k1, keys_put_new hxt, List.append_assoc]; rfl, k2, ?_, k4⟩
    · rw [List.map_cons, gLoop]
      simp only [hName, List.set_cons_succ, List.set_cons_zero]
      rw [e1]
      exact e
    · rw [k3]
      by_cases h : rest = [] <;> simp [h, DV.isO]
section
variable {ok : Addr → Bool} {CM : Addr} {tys : List Value} {GM : FI} {GS GE GH GG_ GL GT : FD}
abbrev bTab (ok : Addr → Bool) (CM : Addr) (tys : List Value) (GM : FI) (GS GE GH GG_ GL GT : FD) : DSt → OutS := (gIfS (gB (gOp hEq (gH 2) (gI (gC (.int 2)))))
 (gDPut 4 (gVar 5) (gPopAt 3 (gCall (drawF dc) (gCons (gVar 0) (gCons (gUn hLen (gH 3)) gNil)))))
 (gIfS (gB (gOp (hII fun i j => .bl (decide (j < i))) (gH 2) (gI (gC (.int 2)))))
 (gDPut 4 (gVar 5) (gIf (gB (gOp hEq (gI (gCall (drawF dc) (gCons (gVar 0) (gCons (gC (.int 3)) gNil)))) (gI (gC (.int 0))))) (gVar 5) (gCall (F__law_any_image ok CM tys GM GS GE GH GG_ GL GT) (gCons (gVar 0) (gCons (gVar 1) gNil)))))
 gPass))
theorem tab_eq2 {a0 a1 a3 a4 a5 : DV} {way : Nat} {p : Pen} : gB (gOp hEq (gH 2) (gI (gC (.int 2)))) ⟨[a0, a1, .d (.int way), a3, a4, a5], p⟩ = .ok (decide (way = 2)) ⟨[a0, a1, .d (.int way), a3, a4, a5], p⟩ := by
  simp only [gB, gOp, gH, gI, gC, List.getElem?_cons_succ, List.getElem?_cons_zero, Out.bind, look, hEq, eqI]
  congr 1
  by_cases h : way = 2
  · simp [h]
  · simp [h]
    omega
theorem tab_gt2 {a0 a1 a3 a4 a5 : DV} {way : Nat} {p : Pen} : gB (gOp (hII fun i j => .bl (decide (j < i))) (gH 2) (gI (gC (.int 2)))) ⟨[a0, a1, .d (.int way), a3, a4, a5], p⟩ = .ok (decide (2 < way)) ⟨[a0, a1, .d (.int way), a3, a4, a5], p⟩ := by
  simp only [gB, gOp, gH, gI, gC, List.getElem?_cons_succ, List.getElem?_cons_zero, Out.bind, look, hII_gt]
  congr 1
  by_cases h : 2 < way
  · simp [h]; omega
  · simp [h]; omega
theorem tab_lt2 {a0 a1 a3 a4 a5 : DV} {way : Nat} {p : Pen} : gB (gOp (hII fun i j => .bl (decide (i < j))) (gH 2) (gI (gC (.int 2)))) ⟨[a0, a1, .d (.int way), a3, a4, a5], p⟩ = .ok (decide (way < 2)) ⟨[a0, a1, .d (.int way), a3, a4, a5], p⟩ := by
  simp only [gB, gOp, gH, gI, gC, List.getElem?_cons_succ, List.getElem?_cons_zero, Out.bind, look, hII_lt]
  congr 1
  by_cases h : way < 2
  · simp [h]; omega
  · simp [h]; omega
/-- the loop of table, for each way -/
theorem loopA {a0 a1 a3 a4 : DV} {way : Nat} {p : Pen} (hw : way < 2) : ∀ (items : List Dat) (u : DV), ∃ u', gLoop (hName 5) (bTab ok CM tys GM GS GE GH GG_ GL GT) items ⟨[a0, a1, .d (.int way), a3, a4, u], p⟩ = .nx ⟨[a0, a1, .d (.int way), a3, a4, u'], p⟩ ∧ (u.isO = false → u'.isO = false)
  | [], u => ⟨u, rfl, id⟩
  | d :: ds, u => by
    obtain ⟨u', e, h⟩ := loopA hw ds (.d d)
    refine ⟨u', ?_, fun _ => h rfl⟩
    rw [gLoop]
    simp only [hName, List.set_cons_succ, List.set_cons_zero]
    have : bTab ok CM tys GM GS GE GH GG_ GL GT ⟨[a0, a1, .d (.int way), a3, a4, .d d], p⟩ = .nx ⟨[a0, a1, .d (.int way), a3, a4, .d d], p⟩ := by
      rw [bTab, gIfS, tab_eq2, decide_eq_false (by omega)]
      simp only [Out.bindS, Bool.false_eq_true, if_false]
      rw [gIfS, tab_gt2, decide_eq_false (by omega)]
      rfl
    rw [this]
    exact e
theorem table_ok {l : List Str} {n : Nat} {p : Pen} (h0 : 0 < l.length) (h12 : l.length ≤ 12) (hn : l.Nodup) (hlt : ∀ x ∈ l, Lt x) (hb : Bg (n + 110) p) :
    ∃ (t : List (Str × Str)) (p' : Pen), F__law_table ok CM tys GM GS GE GH GG_ GL GT [.pen, .lst (l.map .str)] p = .ok (.dic (dK t)) p' ∧ Good t ∧ (∀ x ∈ keys t, x ∈ l) ∧ Bg n p' := by
  obtain ⟨way, p1, e1, hw, hb1⟩ := draw_at (m := 6) (i := 0) (env := [.d .pen, .d (.lst (l.map .str)), .no, .no, .no, .no]) rfl (by decide) (by decide) (show Bg (n + 109 + 1) p from hb)
  -- the table before the last choice
  obtain ⟨t, F4, left, u, p2, e2, hF, hk, hi, hu, hb2⟩ : ∃ (t : List (Str × Str)) (F4 left u : DV) (p2 : Pen), gSeq (gIfS (gB (gOp (hII fun i j => .bl (decide (i < j))) (gH 2) (gI (gC (.int 2)))))
      (gSetN 4 (gN (gCall (F__law_escaped ok CM tys GM GS GE GH GG_ GL GT) (gCons (gVar 0) (gCons (gVar 1) gNil))))) gPass) (gFor (gIl (gVar 1)) (hName 5) (bTab ok CM tys GM GS GE GH GG_ GL GT)) ⟨[.d .pen, .d (.lst (l.map .str)), .d (.int way), .ol (l.map .str), .od (dK []), .no], p1⟩ = .nx ⟨[.d .pen, .d (.lst (l.map .str)), .d (.int way), left, F4, u], p2⟩ ∧ (F4 = .d (.dic (dK t)) ∨ F4 = .od (dK t)) ∧ keys t = l ∧ (∀ q ∈ t, Im q.2) ∧ u.isO = false ∧ Bg (n + 13) p2 := by
    have gf : ∀ (a b c : DV) (q : Pen), gFor (gIl (gVar 1)) (hName 5) (bTab ok CM tys GM GS GE GH GG_ GL GT) ⟨[.d .pen, .d (.lst (l.map .str)), .d (.int way), a, b, c], q⟩ = gLoop (hName 5) (bTab ok CM tys GM GS GE GH GG_ GL GT) (l.map .str) ⟨[.d .pen, .d (.lst (l.map .str)), .d (.int way), a, b, c], q⟩ := fun a b c q => by
      simp only [gFor, gIl, gVar, List.getElem?_cons_succ, List.getElem?_cons_zero, Out.bind, Out.bindS]
    by_cases h2 : way < 2
    · obtain ⟨t, p2, e, hk, hi, hb2⟩ := escaped_ok (ok := ok) (CM := CM) (tys := tys) (GM := GM) (GS := GS) (GE := GE) (GH := GH) (GG_ := GG_) (GL := GL) (GT := GT) (n := n + 13) h0 h12 hn hlt (hb1.mono (by omega))
      obtain ⟨u, eu, hu⟩ := loopA (ok := ok) (CM := CM) (tys := tys) (GM := GM) (GS := GS) (GE := GE) (GH := GH) (GG_ := GG_) (GL := GL) (GT := GT) (a0 := .d .pen) (a1 := .d (.lst (l.map .str))) (a3 := .ol (l.map .str)) (a4 := .d (.dic (dK t))) (p := p2) h2 (l.map .str) .no
      refine ⟨t, .d (.dic (dK t)), .ol (l.map .str), u, p2, ?_, .inl rfl, hk, hi, hu rfl, hb2⟩
      rw [seq_nx (s1 := ⟨[.d .pen, .d (.lst (l.map .str)), .d (.int way), .ol (l.map .str), .d (.dic (dK t)), .no], p2⟩) (by
        rw [gIfS, tab_lt2, decide_eq_true h2]
        simp only [Out.bindS, if_true, gSetN, gN, gCall, gCons, gVar, List.getElem?_cons_succ, List.getElem?_cons_zero, gNil, Out.bind, e]
        rfl), gf]
      exact eu
    · have sk : gIfS (gB (gOp (hII fun i j => .bl (decide (i < j))) (gH 2) (gI (gC (.int 2))))) (gSetN 4 (gN (gCall (F__law_escaped ok CM tys GM GS GE GH GG_ GL GT) (gCons (gVar 0) (gCons (gVar 1) gNil))))) gPass ⟨[.d .pen, .d (.lst (l.map .str)), .d (.int way), .ol (l.map .str), .od (dK []), .no], p1⟩ = .nx ⟨[.d .pen, .d (.lst (l.map .str)), .d (.int way), .ol (l.map .str), .od (dK []), .no], p1⟩ := by
        rw [gIfS, tab_lt2, decide_eq_false h2]
        rfl
      rw [seq_nx sk, gf]
      by_cases h3 : way = 2
      · obtain ⟨t', left', u', p', e, k1, k2, k3, k4⟩ := put_loop (b := bTab ok CM tys GM GS GE GH GG_ GL GT) (a0 := .d .pen) (a1 := .d (.lst (l.map .str))) (a2 := .d (.int way)) (c := 1) (n := n + 13) (fun m left => ∃ tails : List Str, left = .ol (tails.map .str) ∧ (∀ x ∈ tails, Lt x) ∧ m ≤ tails.length ∧ tails.length ≤ 1000)
          (fun x t left q m k hx hL hsz hb => by
            obtain ⟨tails, rfl, ht, hm, hm2⟩ := hL
            obtain ⟨j, hj, q', ep, hq⟩ := pop_at (i := 0) (j := 3) (env := [.d .pen, .d (.lst (l.map .str)), .d (.int way), .ol (tails.map .str), .od (dK t), .d (.str x)]) (l := tails) (p := q) rfl rfl (by omega) hm2 hb
            refine ⟨tails[j], .ol ((tails.eraseIdx j).map .str), q', ?_, (ht _ (List.getElem_mem hj)).im, ⟨_, rfl, fun y hy => ht y (List.mem_of_mem_eraseIdx hy), by rw [List.length_eraseIdx_of_lt hj]; omega, by rw [List.length_eraseIdx_of_lt hj]; omega⟩, hq⟩
            rw [bTab, gIfS, tab_eq2, decide_eq_true h3]
            simp only [Out.bindS, if_true]
            rw [gDPut, ep]
            simp only [Out.bindS, List.set_cons_succ, List.set_cons_zero, isOd, List.getElem?_cons_succ, List.getElem?_cons_zero, if_true, gVar, dput, keyD, hsz, dK_put])
          l [] (.ol (l.map .str)) .no p1 hlt ⟨l, rfl, hlt, Nat.le_refl _, by omega⟩ (by simpa [keys] using hn) (fun q hq => nomatch hq) (by simpa using h12) (hb1.mono (by omega))
        refine ⟨t', _, left', u', p', e, .inr rfl, by simpa [keys] using k1, k2, ?_, k4⟩
        rw [k3]
        split <;> rfl
      · have h4 : 2 < way := by omega
        obtain ⟨t', left', u', p', e, k1, k2, k3, k4⟩ := put_loop (b := bTab ok CM tys GM GS GE GH GG_ GL GT) (a0 := .d .pen) (a1 := .d (.lst (l.map .str))) (a2 := .d (.int way)) (c := 6) (n := n + 13) (fun m left => left = .ol (l.map .str))
          (fun x t left q m k hx hL hsz hb => by
            subst hL
            obtain ⟨j, q', ed, hj, hq⟩ := draw_at (m := 3) (i := 0) (env := [.d .pen, .d (.lst (l.map .str)), .d (.int way), .ol (l.map .str), .od (dK t), .d (.str x)]) rfl (by decide) (by decide) (show Bg (k + 5 + 1) q from hb)
            have ec : gB (gOp hEq (gI (gCall (drawF dc) (gCons (gVar 0) (gCons (gC (.int 3)) gNil)))) (gI (gC (.int 0)))) ⟨[.d .pen, .d (.lst (l.map .str)), .d (.int way), .ol (l.map .str), .od (dK t), .d (.str x)], q⟩ = .ok (decide ((j : Int) = 0)) ⟨[.d .pen, .d (.lst (l.map .str)), .d (.int way), .ol (l.map .str), .od (dK t), .d (.str x)], q'⟩ := by
              rw [gB, gOp]
              simp only [gI, ed, gC, Out.bind, look, hEq, eqI]
            obtain ⟨w, q2, ew, hw, hq2⟩ : ∃ (w : Str) (q2 : Pen), gIf (gB (gOp hEq (gI (gCall (drawF dc) (gCons (gVar 0) (gCons (gC (.int 3)) gNil)))) (gI (gC (.int 0))))) (gVar 5) (gCall (F__law_any_image ok CM tys GM GS GE GH GG_ GL GT) (gCons (gVar 0) (gCons (gVar 1) gNil))) ⟨[.d .pen, .d (.lst (l.map .str)), .d (.int way), .ol (l.map .str), .od (dK t), .d (.str x)], q⟩ = .ok (.str w) ⟨[.d .pen, .d (.lst (l.map .str)), .d (.int way), .ol (l.map .str), .od (dK t), .d (.str x)], q2⟩ ∧ Im w ∧ Bg k q2 := by
              by_cases hj0 : (j : Int) = 0
              · refine ⟨x, q', ?_, hx.im, hq.mono (by omega)⟩
                rw [gIf, ec, decide_eq_true hj0]
                rfl
              · obtain ⟨w, q2, ew, hw, hq2⟩ := any_ok (ok := ok) (CM := CM) (tys := tys) (GM := GM) (GS := GS) (GE := GE) (GH := GH) (GG_ := GG_) (GL := GL) (GT := GT) h0 h12 hlt hq
                refine ⟨w, q2, ?_, hw, hq2⟩
                rw [gIf, ec, decide_eq_false hj0]
                simp only [Out.bind, Bool.false_eq_true, if_false, gCall, gCons, gVar, List.getElem?_cons_succ, List.getElem?_cons_zero, gNil, ew]
            refine ⟨w, .ol (l.map .str), q2, ?_, hw, rfl, hq2⟩
            rw [bTab, gIfS, tab_eq2, decide_eq_false h3]
            simp only [Out.bindS, Bool.false_eq_true, if_false]
            rw [gIfS, tab_gt2, decide_eq_true h4]
            simp only [Out.bindS, if_true]
            rw [gDPut, ew]
            simp only [Out.bindS, List.set_cons_succ, List.set_cons_zero, isOd, List.getElem?_cons_succ, List.getElem?_cons_zero, if_true, gVar, dput, keyD, hsz, dK_put])
          l [] (.ol (l.map .str)) .no p1 hlt rfl (by simpa [keys] using hn) (fun q hq => nomatch hq) (by simpa using h12) (hb1.mono (by omega))
        refine ⟨t', _, left', u', p', e, .inr rfl, by simpa [keys] using k1, k2, ?_, k4⟩
        rw [k3]
        split <;> rfl
  have hgt : Good t := ⟨fun q hq => hlt _ (by rw [← hk]; exact List.mem_map.mpr ⟨q, hq, rfl⟩), hi, by rw [hk]; exact hn, by rw [← keys_len, hk]; exact h12⟩
  obtain ⟨c, p3, e3, hc, hb3⟩ := draw_at (m := 3) (i := 0) (env := [.d .pen, .d (.lst (l.map .str)), .d (.int way), left, F4, u]) rfl (by decide) (by decide) (show Bg (n + 12 + 1) p2 from hb2)
  have ec : gB (gOp (hII fun i j => .bl (decide (j < i))) (gI (gCall (drawF dc) (gCons (gVar 0) (gCons (gC (.int 3)) gNil)))) (gI (gC (.int 0)))) ⟨[.d .pen, .d (.lst (l.map .str)), .d (.int way), left, F4, u], p2⟩ = .ok (decide ((0 : Int) < c)) ⟨[.d .pen, .d (.lst (l.map .str)), .d (.int way), left, F4, u], p3⟩ := by
    rw [gB, gOp]
    simp only [gI, e3, gC, Out.bind, look, hII_gt]
  have start : ∀ rest : DSt → OutS, gSeq (gPar3 2 3 4 (gNcons (gN (gCall (drawF dc) (gCons (gVar 0) (gCons (gC (.int 6)) gNil)))) (gNcons (gUnN hNlist (gH 1)) (gNcons gNd0 gNnil)))) (gSeq (gIfS (gB (gOp (hII fun i j => .bl (decide (i < j))) (gH 2) (gI (gC (.int 2)))))
      (gSetN 4 (gN (gCall (F__law_escaped ok CM tys GM GS GE GH GG_ GL GT) (gCons (gVar 0) (gCons (gVar 1) gNil))))) gPass) (gSeq (gFor (gIl (gVar 1)) (hName 5) (bTab ok CM tys GM GS GE GH GG_ GL GT)) rest)) ⟨[.d .pen, .d (.lst (l.map .str)), .no, .no, .no, .no], p⟩ = rest ⟨[.d .pen, .d (.lst (l.map .str)), .d (.int way), left, F4, u], p2⟩ := fun rest => by
    rw [seq_nx (s1 := ⟨[.d .pen, .d (.lst (l.map .str)), .d (.int way), .ol (l.map .str), .od (dK []), .no], p1⟩) (by
      simp only [gPar3, gNcons, gN, e1, gUnN, gH, List.getElem?_cons_succ, List.getElem?_cons_zero, Out.bind, Out.bindS, look, hNlist, listD, gNd0, gNnil]
      rfl)]
    have assoc : ∀ (f g h : DSt → OutS) (s : DSt), gSeq f (gSeq g h) s = gSeq (gSeq f g) h s := fun f g h s => by
      simp only [gSeq]
      cases f s <;> rfl
    rw [assoc, seq_nx e2]
  by_cases hc0 : (0 : Int) < c
  · refine ⟨t, p3, fdof rfl ?_, hgt, fun x hx => by rw [← hk]; exact hx, hb3.mono (by omega)⟩
    show g__law_table ok CM tys GM GS GE GH GG_ GL GT ⟨[.d .pen, .d (.lst (l.map .str)), .no, .no, .no, .no], p⟩ = _
    unfold g__law_table
    rw [start]
    refine seq_rt ?_
    rw [gIfS, ec, decide_eq_true hc0]
    rcases hF with rfl | rfl <;> rfl
  · have gi : gIk (gVar 4) ⟨[.d .pen, .d (.lst (l.map .str)), .d (.int way), left, F4, u], p3⟩ = .ok ((keys t).map .str) ⟨[.d .pen, .d (.lst (l.map .str)), .d (.int way), left, .d (.dic (dK t)), u], p3⟩ := by
      rcases hF with rfl | rfl
      · simp only [gIk, gVar, List.getElem?_cons_succ, List.getElem?_cons_zero, Out.bind, dicOf, dK_keys]
      · simp only [gIk, gVar, List.getElem?_cons_succ, List.getElem?_cons_zero, Out.bind, dicOf, dK_keys, List.set_cons_succ, List.set_cons_zero]
    obtain ⟨acc, s', el, v, q, rfl, rfl, hv, hb4⟩ := lcl_inv (v := 5) (t := gB (gOp (hII fun i j => .bl (decide (j < i))) (gI (gCall (drawF dc) (gCons (gVar 0) (gCons (gC (.int 3)) gNil)))) (gI (gC (.int 0))))) (e := gTup (gCons (gVar 5) (gCons (gOp hDGet (gH 4) (gH 5)) gNil)))
      (fun k acc s => ∃ (v : List (Str × Str)) (q : Pen), s = ⟨[.d .pen, .d (.lst (l.map .str)), .d (.int way), left, .d (.dic (dK t)), .no], q⟩ ∧ acc = v.map (fun q => .tup [.str q.1, .str q.2]) ∧ (∀ q ∈ v, q ∈ t) ∧ Bg (n + k) q)
      ((keys t).map .str) [] ⟨[.d .pen, .d (.lst (l.map .str)), .d (.int way), left, .d (.dic (dK t)), .no], p3⟩ 12 (by rw [List.length_map, hk]; exact h12) (by rw [List.length_map, hk, List.length_nil, Nat.zero_add]; exact sz12 h12)
      ⟨[], p3, rfl, rfl, (fun q hq => nomatch hq), hb3⟩ (fun d hd k acc s hs => by
        obtain ⟨v, q, rfl, rfl, hv, hb⟩ := hs
        obtain ⟨x, hx, rfl⟩ := List.mem_map.mp hd
        obtain ⟨w, ew, hw⟩ := val_some hx
        obtain ⟨j, q', ed, hj, hq⟩ := draw_at (m := 3) (i := 0) (env := [.d .pen, .d (.lst (l.map .str)), .d (.int way), left, .d (.dic (dK t)), .d (.str x)]) rfl (by decide) (by decide) (show Bg (n + k + 1) q from hb)
        refine ⟨decide ((0 : Int) < j), ⟨[.d .pen, .d (.lst (l.map .str)), .d (.int way), left, .d (.dic (dK t)), .d (.str x)], q'⟩, ?_, fun _ => ⟨rfl, v, q', rfl, rfl, hv, hq⟩, fun _ => ⟨.tup [.str x, .str w], ⟨[.d .pen, .d (.lst (l.map .str)), .d (.int way), left, .d (.dic (dK t)), .d (.str x)], q'⟩, ?_, rfl, v ++ [(x, w)], q', rfl, by simp, fun z hz => ?_, hq⟩⟩
        · show gB _ ⟨[.d .pen, .d (.lst (l.map .str)), .d (.int way), left, .d (.dic (dK t)), .d (.str x)], q⟩ = _
          rw [gB, gOp]
          simp only [gI, ed, gC, Out.bind, look, hII_gt]
        · have ev : valD (dK t) (.inr x) = some (.str w) := by rw [dK_val, ew]; rfl
          have h2 : ([Dat.str x, .str w] : List Dat).length ≤ sizeLine := sz12 (by simp)
          simp only [gTup, gCons, gVar, gOp, gH, List.getElem?_cons_succ, List.getElem?_cons_zero, Out.bind, look, hDGet, dicOf, keyD, ev, gNil, h2, if_true]
        · rcases List.mem_append.mp hz with hz | hz
          · exact hv z hz
          · rw [show z = (x, w) by simpa using hz]; exact hw)
    have e4 := lc_run (v := 5) gi (by simp [plainAt, hu]) (by simpa [wipeE] using el)
    have hm : ∀ q ∈ merT [] v, q ∈ t := fun q hq => by
      rcases mem_mer hq with h | h
      · cases h
      · exact hv q h
    have hks : ∀ x ∈ keys (merT [] v), x ∈ l := fun x hx => by
      obtain ⟨q, hq, rfl⟩ := List.mem_map.mp hx
      rw [← hk]
      exact List.mem_map.mpr ⟨q, hm q hq, rfl⟩
    have hnd : (keys (merT [] v)).Nodup := mer_nodup (by simp [keys])
    refine ⟨merT [] v, q, fdof rfl ?_, ⟨fun q hq => hgt.lt q (hm q hq), fun q hq => hi q (hm q hq), hnd, ?_⟩, hks, hb4.mono (by omega)⟩
    · show g__law_table ok CM tys GM GS GE GH GG_ GL GT ⟨[.d .pen, .d (.lst (l.map .str)), .no, .no, .no, .no], p⟩ = _
      unfold g__law_table
      rw [start]
      rw [seq_nx (s1 := ⟨[.d .pen, .d (.lst (l.map .str)), .d (.int way), left, F4, u], p3⟩) (by
        rw [gIfS, ec, decide_eq_false hc0]
        rfl)]
      have em : mergeD [] (dK v) = dK (merT [] v) := dK_mer [] v
      simp only [gRet, gPl, gUnN, gI, e4, Out.bind, look, hNdict, pairs_map, em, Out.bindS]
    · have := nodup_le hnd hks
      rw [keys_len] at this
      omega
end
end BD
namespace BD
open PySem PySem.Spec PyProof.Rows L2
section
variable {ok : Addr → Bool} {CM : Addr} {tys : List Value} {GM : FI} {GS GE GH GG_ GL GT : FD}
theorem due_loop {t : List (Str × Str)} {z : DV} {p : Pen} (hn : (keys t).Nodup) : ∀ (suf acc : List (Str × Str)) (u : DV), (∀ q ∈ suf, q ∈ t) → acc.length + suf.length ≤ 3000 → ∃ u', gLoop (hName 3) (gDPut 2 (gVar 3) (gOp hDGet (gH 0) (gH 3))) ((keys suf).map .str) ⟨[.d (.dic (dK t)), z, .od (dK acc), u], p⟩ = .nx ⟨[.d (.dic (dK t)), z, .od (dK (merT acc suf)), u'], p⟩
  | [], acc, u, _, _ => ⟨u, rfl⟩
  | q :: suf, acc, u, hs, hl => by
    rw [List.length_cons] at hl
    have hp : (putT acc q.1 q.2).length ≤ acc.length + 1 := by
      unfold putT
      split <;> simp
    obtain ⟨u', e⟩ := due_loop (z := z) (p := p) hn suf (putT acc q.1 q.2) (.d (.str q.1)) (fun r hr => hs r (List.mem_cons_of_mem _ hr)) (by omega)
    refine ⟨u', ?_⟩
    have ev : valD (dK t) (.inr q.1) = some (.str q.2) := by rw [dK_val, val_nodup hn (hs q (List.mem_cons_self ..))]; rfl
    have hsz : (dK acc).length < sizeLine := by rw [dK_len, sizeLine_eq]; omega
    show gLoop _ _ (.str q.1 :: (keys suf).map .str) _ = _
    rw [gLoop]
    simp only [hName, List.set_cons_succ, List.set_cons_zero]
    have : gDPut 2 (gVar 3) (gOp hDGet (gH 0) (gH 3)) ⟨[.d (.dic (dK t)), z, .od (dK acc), .d (.str q.1)], p⟩ = .nx ⟨[.d (.dic (dK t)), z, .od (dK (putT acc q.1 q.2)), .d (.str q.1)], p⟩ := by
      simp only [gDPut, gOp, gH, gVar, List.getElem?_cons_succ, List.getElem?_cons_zero, Out.bind, Out.bindS, look, hDGet, dicOf, keyD, ev, isOd, if_true, dput, hsz, dK_put, List.set_cons_succ, List.set_cons_zero]
    rw [this]
    exact e
theorem due_ok {t : List (Str × Str)} {z : Str} {p : Pen} (hg : Good t) (hz : z.length ≤ 2000) : F__law_due ok CM tys GM GS GE GH GG_ GL GT [.dic (dK t), .str z] p = .ok (.dic (dK (Due t z))) p := by
  refine fdof rfl ?_
  show g__law_due ok CM tys GM GS GE GH GG_ GL GT ⟨[.d (.dic (dK t)), .d (.str z), .no, .no], p⟩ = _
  have e1 : gIs (gVar 1) ⟨[.d (.dic (dK t)), .d (.str z), .no, .no], p⟩ = .ok ((chars z).map .str) ⟨[.d (.dic (dK t)), .d (.str z), .no, .no], p⟩ := by
    simp only [gIs, gVar, List.getElem?_cons_succ, List.getElem?_cons_zero, Out.bind, signs_chars]
  have h2 : ∀ a b : Dat, ([a, b] : List Dat).length ≤ sizeLine := fun a b => sz12 (by simp)
  have e2 := lc_map (v := 3) (e := gTup (gCons (gVar 3) (gCons (gVar 3) gNil))) (fun d => .tup [d, d]) e1 rfl (by rw [List.length_map, chars_len]; exact szl hz) (fun x hx => by
    show gTup _ ⟨[.d (.dic (dK t)), .d (.str z), .no, .d x], p⟩ = .ok _ ⟨[.d (.dic (dK t)), .d (.str z), .no, .d x], p⟩
    simp only [gTup, gCons, gVar, List.getElem?_cons_succ, List.getElem?_cons_zero, Out.bind, gNil, h2, if_true])
  rw [show ((chars z).map Dat.str).map (fun d => Dat.tup [d, d]) = ((chars z).map fun x => (x, x)).map (fun q => Dat.tup [.str q.1, .str q.2]) by simp [Function.comp_def]] at e2
  have em : mergeD [] (dK ((chars z).map fun x => (x, x))) = dK (merT [] ((chars z).map fun x => (x, x))) := dK_mer [] _
  unfold g__law_due
  rw [seq_nx (s1 := ⟨[.d (.dic (dK t)), .d (.str z), .od (dK (merT [] ((chars z).map fun x => (x, x)))), .no], p⟩) (by
    simp only [gSetN, gUnN, gI, e2, Out.bind, look, hNdict, pairs_map, em, Out.bindS]
    rfl)]
  have hlen := mer_len (t := []) (u := (chars z).map fun x => (x, x))
  rw [List.length_map, chars_len, List.length_nil] at hlen
  obtain ⟨u', e⟩ := due_loop (z := .d (.str z)) (p := p) hg.nd t (merT [] ((chars z).map fun x => (x, x))) .no (fun q hq => hq) (by have := hg.len; omega)
  rw [seq_nx (s1 := ⟨[.d (.dic (dK t)), .d (.str z), .od (dK (Due t z)), u'], p⟩) (by
    rw [show Due t z = merT (merT [] ((chars z).map fun x => (x, x))) t from rfl, ← e]
    simp only [gFor, gIk, gVar, List.getElem?_cons_succ, List.getElem?_cons_zero, Out.bind, Out.bindS, dicOf, dK_keys])]
  simp only [gRet, gVar, List.getElem?_cons_succ, List.getElem?_cons_zero, Out.bindS]
end
theorem bls_py : ∀ l : List Bool, toPys (l.map .bl) = some (l.map .bool)
  | [] => rfl
  | x :: l => by rw [List.map_cons, toPys, bls_py l]; rfl
theorem lay_bls : ∀ l : List Bool, PyData.canLayAll0 (l.map .bool) = true ∧ PyData.depthAll (l.map .bool) = 0
  | [] => ⟨rfl, rfl⟩
  | x :: l => by
    obtain ⟨h1, h2⟩ := lay_bls l
    rw [List.map_cons, PyData.canLayAll0, PyData.depthAll, h1, h2, PyData.canLay0, PyData.depth]
    exact ⟨rfl, rfl⟩
theorem ne_bls {l : List Bool} {s : DSt} : hNe (.lst (l.map .bl)) (.lst (l.map .bl)) s = .ok (.bl false) s := by
  obtain ⟨h1, h2⟩ := lay_bls l
  rw [hNe, eq_refl (q := .list (l.map .bool)) (by rw [toPy, bls_py]; rfl) (by
    unfold SeqAt.shaped
    rw [PyData.canLay0, h1, PyData.depth, h2]
    rfl)]
  rfl
end BD
namespace BD
open PySem PySem.Spec PyProof.Rows L2
mutual
def cln : Nat → Dat → Bool
  | _, .non => true
  | _, .int _ => true
  | _, .str x => PyData.strOk x
  | 0, _ => false
  | n + 1, .lst xs => clns n xs
  | n + 1, .tup xs => clns n xs
  | _, _ => false
def clns : Nat → List Dat → Bool
  | _, [] => true
  | n, x :: xs => cln n x && clns n xs
end
mutual
def pyC : Dat → PyData
  | .non => .none
  | .bl b => .bool b
  | .int i => .int i
  | .str x => .str x
  | .lst xs => .list (pyCs xs)
  | .tup xs => .tuple (pyCs xs)
  | _ => .none
def pyCs : List Dat → List PyData
  | [] => []
  | x :: xs => pyC x :: pyCs xs
end
mutual
theorem cln_py : ∀ (n : Nat) (d : Dat), cln n d = true → toPy d = some (pyC d) ∧ (pyC d).canLay0 = true ∧ (pyC d).depth ≤ n
  | n, .non, _ => ⟨rfl, rfl, Nat.zero_le _⟩
  | n, .int _, _ => ⟨rfl, rfl, Nat.zero_le _⟩
  | n, .str x, h => ⟨rfl, by simpa [cln, pyC, PyData.canLay0] using h, Nat.zero_le _⟩
  | n + 1, .lst xs, h => by
    obtain ⟨h1, h2, h3⟩ := clns_py n xs (by simpa [cln] using h)
    refine ⟨by rw [toPy, h1]; rfl, by rw [pyC, PyData.canLay0, h2], by rw [pyC, PyData.depth]; omega⟩
  | n + 1, .tup xs, h => by
    obtain ⟨h1, h2, h3⟩ := clns_py n xs (by simpa [cln] using h)
    refine ⟨by rw [toPy, h1]; rfl, by rw [pyC, PyData.canLay0, h2], by rw [pyC, PyData.depth]; omega⟩
  | 0, .lst _, h => by simp [cln] at h
  | 0, .tup _, h => by simp [cln] at h
  | n, .bl _, h => by cases n <;> simp [cln] at h
  | n, .dic _, h => by cases n <;> simp [cln] at h
  | n, .ins _ _, h => by cases n <;> simp [cln] at h
  | n, .pen, h => by cases n <;> simp [cln] at h
  | n, .bor _, h => by cases n <;> simp [cln] at h
theorem clns_py : ∀ (n : Nat) (l : List Dat), clns n l = true → toPys l = some (pyCs l) ∧ PyData.canLayAll0 (pyCs l) = true ∧ PyData.depthAll (pyCs l) ≤ n
  | n, [], _ => ⟨rfl, rfl, Nat.zero_le _⟩
  | n, x :: xs, h => by
    rw [clns, Bool.and_eq_true] at h
    obtain ⟨h1, h2, h3⟩ := cln_py n x h.1
    obtain ⟨k1, k2, k3⟩ := clns_py n xs h.2
    refine ⟨by rw [toPys, h1, k1]; rfl, by rw [pyCs, PyData.canLayAll0, h2, k2]; rfl, by rw [pyCs, PyData.depthAll]; omega⟩
end
mutual
theorem pyC_inj : ∀ (n m : Nat) (a b : Dat), cln n a = true → cln m b = true → PyData.eqv (pyC a) (pyC b) = true → a = b
  | n, m, .non, b, _, hb, e => by
    cases b <;> first | rfl | (cases m <;> simp [cln] at hb <;> done) | (simp [pyC, PyData.eqv] at e; done)
  | n, m, .int i, b, _, hb, e => by
    cases b <;> first | (cases m <;> simp [cln] at hb <;> done) | (simp [pyC, PyData.eqv] at e; done) | (simp [pyC, PyData.eqv] at e; rw [e])
  | n, m, .str x, b, _, hb, e => by
    cases b <;> first | (cases m <;> simp [cln] at hb <;> done) | (simp [pyC, PyData.eqv] at e; done) | (simp [pyC, PyData.eqv] at e; rw [e])
  | n + 1, m, .lst xs, b, ha, hb, e => by
    cases b with
    | lst ys =>
      cases m with
      | zero => simp [cln] at hb
      | succ m => rw [pyCs_inj n m xs ys (by simpa [cln] using ha) (by simpa [cln] using hb) (by simpa [pyC, PyData.eqv] using e)]
    | _ => first | (simp [pyC, PyData.eqv] at e; done) | (cases m <;> simp [cln] at hb)
  | n + 1, m, .tup xs, b, ha, hb, e => by
    cases b with
    | tup ys =>
      cases m with
      | zero => simp [cln] at hb
      | succ m => rw [pyCs_inj n m xs ys (by simpa [cln] using ha) (by simpa [cln] using hb) (by simpa [pyC, PyData.eqv] using e)]
    | _ => first | (simp [pyC, PyData.eqv] at e; done) | (cases m <;> simp [cln] at hb)
  | 0, m, .lst xs, b, ha, hb, e => by simp [cln] at ha
  | 0, m, .tup xs, b, ha, hb, e => by simp [cln] at ha
  | n, m, .bl _, b, ha, hb, e => by cases n <;> simp [cln] at ha
  | n, m, .dic _, b, ha, hb, e => by cases n <;> simp [cln] at ha
  | n, m, .ins _ _, b, ha, hb, e => by cases n <;> simp [cln] at ha
  | n, m, .pen, b, ha, hb, e => by cases n <;> simp [cln] at ha
  | n, m, .bor _, b, ha, hb, e => by cases n <;> simp [cln] at ha
theorem pyCs_inj : ∀ (n m : Nat) (a b : List Dat), clns n a = true → clns m b = true → PyData.eqvAll (pyCs a) (pyCs b) = true → a = b
  | n, m, [], b, _, hb, e => by
    cases b with
    | nil => rfl
    | cons => simp [pyCs, PyData.eqvAll] at e
  | n, m, x :: xs, b, ha, hb, e => by
    cases b with
    | nil => simp [pyCs, PyData.eqvAll] at e
    | cons y ys =>
      rw [clns, Bool.and_eq_true] at ha hb
      rw [pyCs, pyCs, PyData.eqvAll, Bool.and_eq_true] at e
      rw [pyC_inj n m x y ha.1 hb.1 e.1, pyCs_inj n m xs ys ha.2 hb.2 e.2]
end
theorem cln_shaped {n : Nat} {d : Dat} (hn : n ≤ 64) (h : cln n d = true) : SeqAt.shaped (pyC d) = true := by
  obtain ⟨h1, h2, h3⟩ := cln_py n d h
  unfold SeqAt.shaped
  rw [h2, decide_eq_true (by omega)]
  rfl
open Classical in
theorem eqD_cln {n m : Nat} {a b : Dat} (ha : cln n a = true) (hb : cln m b = true) (hn : n ≤ 64 := by decide) (hm : m ≤ 64 := by decide) : eqD a b = some (decide (a = b)) := by
  obtain ⟨h1, h2, h3⟩ := cln_py n a ha
  obtain ⟨k1, k2, k3⟩ := cln_py m b hb
  have s1 := cln_shaped hn ha
  have s2 := cln_shaped hm hb
  by_cases h : a = b
  · subst h
    rw [decide_eq_true rfl]
    exact eq_refl h1 s1
  · have e : PyData.eqv (pyC a) (pyC b) = false := by
      cases q : PyData.eqv (pyC a) (pyC b) with
      | false => rfl
      | true => exact (h (pyC_inj n m a b ha hb q)).elim
    simp only [eqD, h1, k1, s1, s2, and_self, if_true, e, decide_eq_false h]
theorem clns_str {n : Nat} {l : List Str} (h : ∀ x ∈ l, PyData.strOk x = true) : clns n (l.map .str) = true := by
  induction l with
  | nil => rfl
  | cons x l ih => rw [List.map_cons, clns, ih fun y hy => h y (List.mem_cons_of_mem _ hy), Bool.and_true]; cases n <;> simpa [cln] using h x (List.mem_cons_self ..)
theorem cln_lst {n : Nat} {l : List Dat} (h : clns n l = true) : cln (n + 1) (.lst l) = true := by rw [cln]; exact h
theorem cln_tup {n : Nat} {l : List Dat} (h : clns n l = true) : cln (n + 1) (.tup l) = true := by rw [cln]; exact h
theorem cln_s {n : Nat} {x : Str} (h : PyData.strOk x = true) : cln n (.str x) = true := by cases n <;> simpa [cln] using h
section
variable {E : EX} {Q : Dat → DSt → Prop} {s : DSt}
open Classical in
theorem WE_eq {n m : Nat} {a b : Dat} (ha : cln n a = true) (hb : cln m b = true) (h : Q (.bl (decide (a = b))) s) (hn : n ≤ 64 := by decide) (hm : m ≤ 64 := by decide) : WE Q E (hEq a b s) := by
  rw [hEq, eqD_cln ha hb hn hm]
  exact h
open Classical in
theorem WE_ne {n m : Nat} {a b : Dat} (ha : cln n a = true) (hb : cln m b = true) (h : Q (.bl (!decide (a = b))) s) (hn : n ≤ 64 := by decide) (hm : m ≤ 64 := by decide) : WE Q E (hNe a b s) := by
  rw [hNe, eqD_cln ha hb hn hm]
  exact h
open Classical in
theorem WE_ne_same {n : Nat} {a b : Dat} (ha : cln n a = true) (e : a = b) (h : Q (.bl false) s) (hn : n ≤ 64 := by decide) : WE Q E (hNe a b s) := by
  subst e
  refine WE_ne ha ha ?_ hn hn
  rw [decide_eq_true rfl]
  exact h
open Classical in
theorem WE_eq_same {n : Nat} {a b : Dat} (ha : cln n a = true) (e : a = b) (h : Q (.bl true) s) (hn : n ≤ 64 := by decide) : WE Q E (hEq a b s) := by
  subst e
  refine WE_eq ha ha ?_ hn hn
  rw [decide_eq_true rfl]
  exact h
theorem WE_ne_bls {a b : List Bool} (e : a = b) (h : Q (.bl false) s) : WE Q E (hNe (.lst (a.map .bl)) (.lst (b.map .bl)) s) := by
  subst e
  rw [ne_bls]
  exact h
theorem WE_neI {a b : Int} : WE Q E (hNe (.int a) (.int b) s) = Q (.bl (!decide (a = b))) s := by
  rw [hNe, eqI]
  rfl
theorem WE_len {xs : List Dat} : WE Q E (hLen (.lst xs) s) = Q (.int xs.length) s := rfl
theorem WE_tuple {xs : List Dat} : WE Q E (hTuple (.lst xs) s) = Q (.tup xs) s := rfl
theorem WE_str {x : Str} : WE Q E (hStr (.str x) s) = Q (.str x) s := rfl
theorem WE_sorted {ss : List Str} : WE Q E (hSorted (.lst (ss.map .str)) s) = (ss.length < 64 ∧ Q (.lst ((sortS ss).map .str)) s) := by
  rw [hSorted]
  simp only [strs_map]
  rw [WE_ifno]
  rfl
theorem WE_join {z : Str} {ss : List Str} : WE Q E (hJoin (.str z) (.lst (ss.map .str)) s) = ((ss.map (·.length)).sum + ss.length * z.length ≤ 16777216 ∧ Q (.str (Txt.join z ss)) s) := by
  rw [hJoin]
  simp only [strs_map]
  rw [WE_ifno]
  rfl
theorem WE_addS {x y : Str} : WE Q E (hAdd (.str x) (.str y) s) = (x.length + y.length ≤ sizeLine ∧ Q (.str (x ++ y)) s) := by
  show WE Q E (if _ then _ else _) = _
  rw [WE_ifno]
  rfl
theorem WE_dget {d : Dat} {t : List (Str × Str)} {x w : Str} (hT : IsT d t) (h : val? t x = some w) : WE Q E (hDGet d (.str x) s) = Q (.str w) s := by
  have ev : valD (dK t) (.inr x) = some (.str w) := by rw [dK_val, h]; rfl
  rcases hT with rfl | rfl <;> simp only [hDGet, dicOf, keyD, ev, WE_ok]
theorem WE_din {t : List (Str × Str)} {x : Str} : WE Q E (hDIn (.str x) (.dic (dK t)) s) = Q (.bl (decide (x ∈ keys t))) s := by
  have ev : (valD (dK t) (.inr x)).isSome = decide (x ∈ keys t) := by
    rw [dK_val]
    by_cases h : x ∈ keys t
    · obtain ⟨w, e, _⟩ := val_some h
      simp [e, h]
    · simp [val_keys.mpr h, h]
  simp only [hDIn, keyD, ev, WE_ok]
theorem WE_il {g : DSt → Out Dat} {Q : List Dat → DSt → Prop} : WE Q E (gIl g s) = WE (fun d s1 => match d with | .lst xs => Q xs s1 | _ => False) E (g s) := by
  unfold gIl
  rw [WE_bind]
  congr
  funext d s1
  cases d <;> rfl
theorem WE_ik {g : DSt → Out Dat} {Q : List Dat → DSt → Prop} : WE Q E (gIk g s) = WE (fun d s1 => match dicOf d with | some ks => Q (ks.map fun q => kD q.1) s1 | _ => False) E (g s) := by
  unfold gIk
  rw [WE_bind]
  congr
  funext d s1
  cases dicOf d <;> rfl
theorem WE_ir {g : DSt → Out Dat} {Q : List Dat → DSt → Prop} : WE Q E (gIr (gCons g gNil) s) = WE (fun d s1 => match d with | .int n => (-1000000 ≤ n ∧ n ≤ 1000000) ∧ Q (rangeD n) s1 | _ => False) E (g s) := by
  unfold gIr
  rw [WE_bind, WE_cons]
  congr
  funext d s1
  rw [WE_nil]
  cases d <;> first | rfl | (rw [WE_ifno]; rfl)
end
structure Is2 {α : Type} (a b : α) (s s' : DSt) : Prop where
  a : a = b
  s : s = s'
theorem WE_is2 {α : Type} {a : α} {s' : DSt} {o : Out α} (h : WE (fun y s => Is2 y a s s') X0 o) : o = .ok a s' := by
  cases o with
  | ok y s => obtain ⟨rfl, rfl⟩ := h; rfl
  | ex => exact h.elim
  | no => exact h.elim
theorem wipe_set2 (v : Nat) (d : DV) (env : List DV) : (wipeE [v] env).set v d = env.set v d := by
  apply List.ext_getElem?
  intro i
  simp only [List.getElem?_set, wipeE, List.getElem?_mapIdx, List.length_mapIdx]
  by_cases h : v = i
  · subst h
    rw [if_pos rfl, if_pos rfl]
  · rw [if_neg h, if_neg h]
    cases env[i]? with
    | none => rfl
    | some x => simp [Ne.symm h]
theorem lcl_typed {τ : Type} {v : Nat} {t : DSt → Out Bool} {e : DSt → Out Dat} {env : List DV} {p : Pen} (enc : τ → Dat) (b : τ → Bool) (f : τ → Dat) : ∀ (l : List τ) (acc : List Dat), acc.length + l.length ≤ sizeLine →
    (∀ x ∈ l, WE (fun c s' => Is2 c (b x) s' ⟨env.set v (.d (enc x)), p⟩) X0 (t ⟨env.set v (.d (enc x)), p⟩)) → (∀ x ∈ l, b x = true → WE (fun y s' => Is2 y (f x) s' ⟨env.set v (.d (enc x)), p⟩) X0 (e ⟨env.set v (.d (enc x)), p⟩)) →
    gLcL [v] (hName v) t e (l.map enc) acc ⟨wipeE [v] env, p⟩ = .ok (acc ++ (l.filter b).map f) ⟨wipeE [v] env, p⟩
  | [], acc, _, _, _ => by simp [gLcL]
  | d :: ds, acc, hl, h, h' => by
    have e1 := WE_is2 (h d (List.mem_cons_self ..))
    rw [List.length_cons] at hl
    rw [List.map_cons, gLcL]
    simp only [hName, wipe_set2, e1]
    cases hb : b d with
    | true =>
      have e2 := WE_is2 (h' d (List.mem_cons_self ..) hb)
      simp only [e2, plain_set, wipe_set, wipe_idem]
      rw [if_pos ⟨by omega, trivial⟩, lcl_typed enc b f ds (acc ++ [f d]) (by rw [List.length_append]; simp; omega) (fun x hx => h x (List.mem_cons_of_mem _ hx)) fun x hx => h' x (List.mem_cons_of_mem _ hx)]
      simp [List.filter_cons, hb]
    | false =>
      simp only [plain_set, wipe_set, wipe_idem, if_true]
      rw [lcl_typed enc b f ds acc (by omega) (fun x hx => h x (List.mem_cons_of_mem _ hx)) fun x hx => h' x (List.mem_cons_of_mem _ hx)]
      simp [List.filter_cons, hb]
structure LcK {τ : Type} (v : Nat) (t : DSt → Out Bool) (e : DSt → Out Dat) (l : List τ) (enc : τ → Dat) (b : τ → Bool) (f : τ → Dat) (Q : List Dat → DSt → Prop) (items : List Dat) (s1 : DSt) : Prop where
  it : items = l.map enc
  sz : l.length ≤ sizeLine
  pl : plainAt [v] s1.env = true
  test : ∀ x ∈ l, WE (fun c s' => Is2 c (b x) s' ⟨s1.env.set v (.d (enc x)), s1.pen⟩) X0 (t ⟨s1.env.set v (.d (enc x)), s1.pen⟩)
  each : ∀ x ∈ l, b x = true → WE (fun y s' => Is2 y (f x) s' ⟨s1.env.set v (.d (enc x)), s1.pen⟩) X0 (e ⟨s1.env.set v (.d (enc x)), s1.pen⟩)
  fin : Q ((l.filter b).map f) s1
structure LmK {τ : Type} (v : Nat) (e : DSt → Out Dat) (l : List τ) (enc : τ → Dat) (f : τ → Dat) (Q : List Dat → DSt → Prop) (items : List Dat) (s1 : DSt) : Prop where
  it : items = l.map enc
  sz : l.length ≤ sizeLine
  pl : plainAt [v] s1.env = true
  each : ∀ x ∈ l, WE (fun y s' => Is2 y (f x) s' ⟨s1.env.set v (.d (enc x)), s1.pen⟩) X0 (e ⟨s1.env.set v (.d (enc x)), s1.pen⟩)
  fin : Q (l.map f) s1
section
variable {τ : Type} {E : EX} {s : DSt}
theorem WE_imp {α : Type} {Q Q' : α → DSt → Prop} {o : Out α} (i : ∀ a s, Q' a s → Q a s) (h : WE Q' E o) : WE Q E o := by
  cases o with
  | ok a s => exact i a s h
  | ex => exact h
  | no => exact h
theorem WE_lcA {v : Nat} {gi : DSt → Out (List Dat)} {t : DSt → Out Bool} {e : DSt → Out Dat} {Q : List Dat → DSt → Prop} (l : List τ) (enc : τ → Dat) (b : τ → Bool) (f : τ → Dat)
    (h : WE (LcK v t e l enc b f Q) E (gi s)) : WE Q E (gLcA [v] gi (hName v) t e s) := by
  unfold gLcA
  rw [WE_bind]
  refine WE_imp (fun items s1 k => ?_) h
  obtain ⟨rfl, h1, h2, h3, h4, h5⟩ := k
  obtain ⟨env, p⟩ := s1
  refine WE_mk (o' := .ok ((l.filter b).map f) ⟨env, p⟩) ?_ h5
  show (if plainAt [v] env = true then _ else _) = _
  rw [if_pos h2]
  simp only [lcl_typed enc b f l [] (by simpa using h1) h3 h4, back_wipe, List.nil_append]
theorem WE_lc {v : Nat} {gi : DSt → Out (List Dat)} {t : DSt → Out Bool} {e : DSt → Out Dat} {Q : Dat → DSt → Prop} (l : List τ) (enc : τ → Dat) (b : τ → Bool) (f : τ → Dat)
    (h : WE (LcK v t e l enc b f (fun xs s1 => Q (.lst xs) s1)) E (gi s)) : WE Q E (gLc [v] gi (hName v) t e s) := by
  unfold gLc
  rw [WE_bind]
  exact WE_lcA l enc b f h
theorem WE_lcm {v : Nat} {gi : DSt → Out (List Dat)} {e : DSt → Out Dat} {Q : Dat → DSt → Prop} (l : List τ) (enc : τ → Dat) (f : τ → Dat)
    (h : WE (LmK v e l enc f (fun xs s1 => Q (.lst xs) s1)) E (gi s)) : WE Q E (gLc [v] gi (hName v) gYes e s) := by
  refine WE_lc l enc (fun _ => true) f (WE_imp (fun items s1 k => ?_) h)
  exact ⟨k.it, k.sz, k.pl, fun x _ => ⟨rfl, rfl⟩, fun x hx _ => k.each x hx, by rw [List.filter_eq_self.mpr fun _ _ => rfl]; exact k.fin⟩
end
end BD
namespace BD
open PySem PySem.Spec PyProof.Rows L2
/-- all letters, not looked into -/
@[irreducible] def abcI : List Str := abcL
theorem abcI_eq : abcI = abcL := by unfold abcI; rfl
theorem listD_abcI : listD (.str "abcdefghijklmnopqrstuvwxyz") = some (abcI.map .str) := by rw [listD_abc, abcI_eq]
section
variable {cs subs others : List Addr} {ok : Addr → Bool} {CM : Addr} {tys : List Value} {GM : FI} {GS GE : FD} {r : List Str} {d d' : List (Str × Str)} {p : Pen} {E : EX} {s : DSt}
theorem WE_orT {g h : DSt → Out Dat} {Q : Dat → DSt → Prop} : WE Q E (gOrT g h s) = WE (fun d s1 => match truD d with | some true => Q d s1 | some false => WE Q E (h s1) | none => False) E (g s) := by
  unfold gOrT
  rw [WE_bind]
  congr
  funext d s1
  cases truD d with
  | none => rfl
  | some b => cases b <;> rfl
theorem truD_str {z : Str} (h : z.length ≤ sizeLine) : truD (.str z) = some (decide (z.length ≠ 0)) := by
  simp only [truD, h, if_true]
  congr 1
  by_cases e : z.length = 0
  · simp [e]
  · rw [decide_eq_true e]
    simp
    omega
theorem strOk_add {a b : Str} (ha : PyData.strOk a = true) (hb : PyData.strOk b = true) : PyData.strOk (a ++ b) = true := by
  unfold PyData.strOk at *
  show (a.cps ++ b.cps).all _ = true
  rw [Array.all_append, ha, hb]
  rfl
theorem strOk_join {z : Str} (hz : PyData.strOk z = true) : ∀ {l : List Str}, (∀ x ∈ l, PyData.strOk x = true) → PyData.strOk (Txt.join z l) = true := by
  intro l h
  rw [TL.join_eq]
  induction l with
  | nil =>
    show PyData.strOk Str.empty = true
    decide +kernel
  | cons x l ih =>
    cases l with
    | nil => exact h x (List.mem_cons_self ..)
    | cons y l => exact strOk_add (strOk_add (h x (List.mem_cons_self ..)) hz) (ih fun y hy => h y (List.mem_cons_of_mem _ hy))
theorem word_ok (hg : Good d) {x : Str} (hx : x ∈ keys d) : PyData.strOk (word d x) = true := by
  obtain ⟨w, ew, hw⟩ := val_some hx
  rw [word, ew]
  exact strOk_add (strOk_add (lt_ok (hg.key hx)) (by decide +kernel)) (im_ok (hg.im _ hw))
theorem shown_ok (hg : Good d) : PyData.strOk (shown d) = true := by
  unfold shown
  split
  · decide +kernel
  · refine strOk_join (by decide +kernel) fun w hw => ?_
    obtain ⟨x, hx, rfl⟩ := List.mem_map.mp hw
    exact word_ok hg (mem_sort.mp hx)
theorem joined_len (hg : Good d) : (Txt.join (" " : Str) ((sortS (keys d)).map (word d))).length ≤ 2000 := by
  have h1 := join_len (" " : Str) ((sortS (keys d)).map (word d))
  have h2 := sum_le (l := (sortS (keys d)).map (word d)) (k := 6) fun w hw => by
    obtain ⟨x, hx, rfl⟩ := List.mem_map.mp hw
    exact (word_len hg (mem_sort.mp hx)).1
  rw [List.length_map, sort_len, keys_len] at h1 h2
  rw [blank_len] at h1
  have := hg.len
  omega
theorem joined_pos (hg : Good d) (h : d.length ≠ 0) : (Txt.join (" " : Str) ((sortS (keys d)).map (word d))).length ≠ 0 := by
  rw [TL.join_eq]
  cases e : sortS (keys d) with
  | nil =>
    have : (sortS (keys d)).length = d.length := by rw [sort_len, keys_len]
    rw [e] at this
    exact (h this.symm).elim
  | cons x l =>
    have hx : x ∈ keys d := mem_sort.mp (by rw [e]; exact List.mem_cons_self ..)
    have hw := (word_len hg hx).2
    cases l with
    | nil =>
      show (word d x).length ≠ 0
      omega
    | cons y l =>
      show (word d x ++ (" " : Str) ++ _).length ≠ 0
      rw [add_len, add_len]
      omega
theorem joined_nil (h : d.length = 0) : Txt.join (" " : Str) ((sortS (keys d)).map (word d)) = "" := by
  have : (sortS (keys d)).length = 0 := by rw [sort_len, keys_len, h]
  rw [List.eq_nil_of_length_eq_zero this, List.map_nil, TL.join_eq]
  show Str.empty = ("" : Str)
  decide +kernel
theorem WE_lenO {Q : Dat → DSt → Prop} (hok : ok CM = true) (hl : d.length ≤ 12) : WE Q E (hLenO ok (FDof 1 0 (g_m_len cs subs others CM ok)) (mis CM r d) s) = Q (.int d.length) s := by
  have e := len_ok (cs := cs) (subs := subs) (others := others) (r := r) (d := d) (p := s.pen) hok
  have h1 : (0 : Int) ≤ d.length ∧ (d.length : Int) < 1000000 := ⟨by omega, by omega⟩
  unfold hLenO mis at *
  simp only [hok, if_true, callO, e, Out.bind, h1, and_self, WE_ok]
theorem WE_ixO {Q : Dat → DSt → Prop} (hok : ok CM = true) (hg : Good d) {x w : Str} (h : val? d x = some w) : WE Q E (hIxO ok (FDof 2 0 (g_m_get cs subs others CM ok)) (mis CM r d) (.str x) s) = Q (.str w) s := by
  have e := get_ok (cs := cs) (subs := subs) (others := others) (r := r) (d := d) (p := s.pen) hok hg h
  unfold hIxO mis at *
  simp only [hok, if_true, callO, e, WE_ok]
theorem WE_inO {Q : Dat → DSt → Prop} (hok : ok CM = true) {x : Str} : WE Q E (hInO false ok (FDof 2 0 (g_m_has cs subs others CM ok)) (.str x) (mis CM r d) s) = Q (.bl (decide (x ∈ keys d))) s := by
  have e := has_str (cs := cs) (subs := subs) (others := others) (r := r) (d := d) (p := s.pen) hok x
  unfold hInO mis at *
  simp only [hok, if_true, callO, e, Out.bind, WE_ok, Bool.false_bne]
theorem WE_inOth {Q : Dat → DSt → Prop} (hok : ok CM = true) {y : Dat} (hy : NoStr y) : WE Q E (hInO false ok (FDof 2 0 (g_m_has cs subs others CM ok)) y (mis CM r d) s) = Q (.bl false) s := by
  have e := has_oth (cs := cs) (subs := subs) (others := others) (r := r) (d := d) (p := s.pen) (CM := CM) (ok := ok) hy
  unfold hInO mis at *
  simp only [hok, if_true, callO, e, Out.bind, WE_ok]
  rfl
theorem WE_strO {Q : Dat → DSt → Prop} (hok : ok CM = true) (hg : Good d) : WE Q E (hStrO ok (FDof 1 1 (g_m_str cs subs others CM ok)) (mis CM r d) s) = Q (.str (shown d)) s := by
  have e := str_ok (cs := cs) (subs := subs) (others := others) (r := r) (d := d) (p := s.pen) hok hg
  unfold hStrO mis at *
  simp only [hok, if_true, callO, e, Out.bind, WE_ok]
theorem WE_iown {g : DSt → Out Dat} {Q : List Dat → DSt → Prop} {nm : Str} : WE Q E (gIown ok nm g s) = WE (fun d s1 => match d with | .ins C fs => ok C = true ∧ (match fs.lookup nm with | some (.tup xs) => Q xs s1 | _ => False) | _ => False) E (g s) := by
  unfold gIown
  rw [WE_bind]
  congr
  funext d s1
  cases d with
  | ins C fs =>
    by_cases h : ok C = true
    · simp only [h, if_true, true_and]
      cases fs.lookup nm with
      | none => rfl
      | some x => cases x <;> rfl
    · simp only [h, if_false, false_and, Bool.false_eq_true]
      rfl
  | _ => rfl
theorem lk_letters : (flds r d).lookup ("letters" : Str) = some (.tup ((sortS (keys d)).map .str)) := by
  simp only [flds]
  rw [List.lookup_cons, show (("letters" : Str) == "images") = false by decide +kernel]
  rfl
theorem WE_fldC {Q : Dat → DSt → Prop} (hok : ok CM = true) : WE Q E (hFld "changed" ok (mis CM r d) s) = Q (.tup (((sortS (keys d)).filter (chg d)).map .str)) s := by
  rw [fld_changed hok]
  rfl
theorem lk_sorted (hg : Good d) : ∀ x ∈ sortS (keys d), Lt x := fun x hx => hg.key (mem_sort.mp hx)
theorem srt_sz (hg : Good d) : (sortS (keys d)).length ≤ sizeLine := by rw [sort_len, keys_len]; exact sz12 hg.len
theorem strs_ok {l : List Str} (h : ∀ x ∈ l, Lt x) : ∀ x ∈ l, PyData.strOk x = true := fun x hx => lt_ok (h x hx)
theorem val_get (hg : Good d) {x : Str} (hx : x ∈ keys d) : ∃ w, val? d x = some w ∧ Im w := by
  obtain ⟨w, e, h⟩ := val_some hx
  exact ⟨w, e, hg.im _ h⟩
theorem join_le (hg : Good d) : (Txt.join ("" : Str) (sortS (keys d))).length ≤ 12 := by
  rw [(join_wd (lk_sorted hg)).2.1, sort_len, keys_len]
  exact hg.len
theorem ltlen {x : Str} (h : Lt x) : x.length = 1 := by obtain ⟨c, _, rfl⟩ := h; rfl
/-- the words of the law are the words of the text -/
theorem right_ok (hok : ok CM = true) (hg : Good d) (hg' : Good d') (hs : sortS (keys d') = sortS (keys d)) (hv : ∀ x, val? d' x = val? d x) {R : Dat → Pen → Prop} (hR : R (.bl true) p) :
    WF R X0 (F__law_right ok CM tys GM GS GE (FDof 2 0 (g_m_has cs subs others CM ok)) (FDof 2 0 (g_m_get cs subs others CM ok)) (FDof 1 0 (g_m_len cs subs others CM ok)) (FDof 1 1 (g_m_str cs subs others CM ok)) [mis CM r d, .dic (dK d')] p) := by
  have hl : d'.length = d.length := by rw [← keys_len, ← keys_len, ← sort_len (keys d'), hs, sort_len]
  have hk : ∀ x, x ∈ keys d' ↔ x ∈ keys d := fun x => by rw [← mem_sort, hs, mem_sort]
  have hT : IsT (.dic (dK d')) d' := .inl rfl
  refine WF_def ⟨rfl, ?_⟩
  show WS _ _ _ (g__law_right ok CM tys GM GS GE _ _ _ _ ⟨[.d (mis CM r d), .d (.dic (dK d')), .no, .no, .no, .no, .no], p⟩)
  unfold g__law_right
  try simp only [WE_ok, WE_ex, WE_bind, WE_C, WE_var, WE_h, WE_i, WE_nil, WE_cons, WE_lst, WE_tup, WE_op, opK_some, WE_un, WE_unN, unK_some, WE_b, bK_bl, WE_not, WE_and, WE_or, WE_ite, WE_andV, WE_orV, WE_notV, WS_seq, WS_set, WS_setN, WS_ret, WS_retN, WS_drop, WS_ifS, WS_pass, WS_never, WE_call, WE_callO, WE_opP, WE_n, WE_nl, WE_nnil, WE_ncons, WE_nd0, WE_pl, plK_d, plK_ol, plK_od, WS_for, WS_nx, WS_rt, WS_ex, WF_ok, WF_ex, WS_bindS, id, List.getElem?_cons_zero, List.getElem?_cons_succ, List.set_cons_zero, List.set_cons_succ, look, if_true, if_false, Bool.false_eq_true, Bool.not_true, Bool.not_false, List.map_cons, List.map_nil, List.replicate_succ, List.replicate_zero, List.cons_append, List.nil_append, decide_true, decide_false]
  refine WE_lcm (keys d') .str .str ?_
  try simp only [WE_ik, dicOf, dK_keys, WE_ok, WE_ex, WE_bind, WE_C, WE_var, WE_h, WE_i, WE_nil, WE_cons, WE_lst, WE_tup, WE_op, opK_some, WE_un, WE_unN, unK_some, WE_b, bK_bl, WE_not, WE_and, WE_or, WE_ite, WE_andV, WE_orV, WE_notV, WS_seq, WS_set, WS_setN, WS_ret, WS_retN, WS_drop, WS_ifS, WS_pass, WS_never, WE_call, WE_callO, WE_opP, WE_n, WE_nl, WE_nnil, WE_ncons, WE_nd0, WE_pl, plK_d, plK_ol, plK_od, WS_for, WS_nx, WS_rt, WS_ex, WF_ok, WF_ex, WS_bindS, id, List.getElem?_cons_zero, List.getElem?_cons_succ, List.set_cons_zero, List.set_cons_succ, look, if_true, if_false, Bool.false_eq_true, Bool.not_true, Bool.not_false, List.map_cons, List.map_nil, List.replicate_succ, List.replicate_zero, List.cons_append, List.nil_append, decide_true, decide_false]
  refine ⟨rfl, by rw [keys_len]; exact sz12 hg'.len, rfl, fun x hx => ?_, ?_⟩
  · try simp only [WE_str, WE_ok, WE_ex, WE_bind, WE_C, WE_var, WE_h, WE_i, WE_nil, WE_cons, WE_lst, WE_tup, WE_op, opK_some, WE_un, WE_unN, unK_some, WE_b, bK_bl, WE_not, WE_and, WE_or, WE_ite, WE_andV, WE_orV, WE_notV, WS_seq, WS_set, WS_setN, WS_ret, WS_retN, WS_drop, WS_ifS, WS_pass, WS_never, WE_call, WE_callO, WE_opP, WE_n, WE_nl, WE_nnil, WE_ncons, WE_nd0, WE_pl, plK_d, plK_ol, plK_od, WS_for, WS_nx, WS_rt, WS_ex, WF_ok, WF_ex, WS_bindS, id, List.getElem?_cons_zero, List.getElem?_cons_succ, List.set_cons_zero, List.set_cons_succ, look, if_true, if_false, Bool.false_eq_true, Bool.not_true, Bool.not_false, List.map_cons, List.map_nil, List.replicate_succ, List.replicate_zero, List.cons_append, List.nil_append, decide_true, decide_false]
    exact ⟨rfl, rfl⟩
  try simp only [WE_sorted, WE_ok, WE_ex, WE_bind, WE_C, WE_var, WE_h, WE_i, WE_nil, WE_cons, WE_lst, WE_tup, WE_op, opK_some, WE_un, WE_unN, unK_some, WE_b, bK_bl, WE_not, WE_and, WE_or, WE_ite, WE_andV, WE_orV, WE_notV, WS_seq, WS_set, WS_setN, WS_ret, WS_retN, WS_drop, WS_ifS, WS_pass, WS_never, WE_call, WE_callO, WE_opP, WE_n, WE_nl, WE_nnil, WE_ncons, WE_nd0, WE_pl, plK_d, plK_ol, plK_od, WS_for, WS_nx, WS_rt, WS_ex, WF_ok, WF_ex, WS_bindS, id, List.getElem?_cons_zero, List.getElem?_cons_succ, List.set_cons_zero, List.set_cons_succ, look, if_true, if_false, Bool.false_eq_true, Bool.not_true, Bool.not_false, List.map_cons, List.map_nil, List.replicate_succ, List.replicate_zero, List.cons_append, List.nil_append, decide_true, decide_false]
  refine ⟨by rw [keys_len, hl]; have := hg.len; omega, ?_⟩
  rw [hs]
  have iter : ∀ (a b c e f : DV) (Q : Dat → DSt → Prop), Q (.lst ((sortS (keys d)).map .str)) ⟨[.d (mis CM r d), a, b, c, e, .no, f], p⟩ → WE Q X0 (gLc [5] (gIown ok (Str.ofString "letters") (gVar 0)) (hName 5) gYes (gVar 5) ⟨[.d (mis CM r d), a, b, c, e, .no, f], p⟩) := fun a b c e f Q h => by
    refine WE_lcm (sortS (keys d)) .str .str ?_
    try simp only [WE_iown, mis, lk_letters, WE_ok, WE_ex, WE_bind, WE_C, WE_var, WE_h, WE_i, WE_nil, WE_cons, WE_lst, WE_tup, WE_op, opK_some, WE_un, WE_unN, unK_some, WE_b, bK_bl, WE_not, WE_and, WE_or, WE_ite, WE_andV, WE_orV, WE_notV, WS_seq, WS_set, WS_setN, WS_ret, WS_retN, WS_drop, WS_ifS, WS_pass, WS_never, WE_call, WE_callO, WE_opP, WE_n, WE_nl, WE_nnil, WE_ncons, WE_nd0, WE_pl, plK_d, plK_ol, plK_od, WS_for, WS_nx, WS_rt, WS_ex, WF_ok, WF_ex, WS_bindS, id, List.getElem?_cons_zero, List.getElem?_cons_succ, List.set_cons_zero, List.set_cons_succ, look, if_true, if_false, Bool.false_eq_true, Bool.not_true, Bool.not_false, List.map_cons, List.map_nil, List.replicate_succ, List.replicate_zero, List.cons_append, List.nil_append, decide_true, decide_false]
    refine ⟨hok, rfl, srt_sz hg, rfl, fun x hx => ?_, h⟩
    try simp only [WE_ok, WE_ex, WE_bind, WE_C, WE_var, WE_h, WE_i, WE_nil, WE_cons, WE_lst, WE_tup, WE_op, opK_some, WE_un, WE_unN, unK_some, WE_b, bK_bl, WE_not, WE_and, WE_or, WE_ite, WE_andV, WE_orV, WE_notV, WS_seq, WS_set, WS_setN, WS_ret, WS_retN, WS_drop, WS_ifS, WS_pass, WS_never, WE_call, WE_callO, WE_opP, WE_n, WE_nl, WE_nnil, WE_ncons, WE_nd0, WE_pl, plK_d, plK_ol, plK_od, WS_for, WS_nx, WS_rt, WS_ex, WF_ok, WF_ex, WS_bindS, id, List.getElem?_cons_zero, List.getElem?_cons_succ, List.set_cons_zero, List.set_cons_succ, look, if_true, if_false, Bool.false_eq_true, Bool.not_true, Bool.not_false, List.map_cons, List.map_nil, List.replicate_succ, List.replicate_zero, List.cons_append, List.nil_append, decide_true, decide_false]
    exact ⟨rfl, rfl⟩
  have hck : cln 1 (.lst ((sortS (keys d)).map .str)) = true := cln_lst (clns_str (strs_ok (lk_sorted hg)))
  try simp only [WE_ok, WE_ex, WE_bind, WE_C, WE_var, WE_h, WE_i, WE_nil, WE_cons, WE_lst, WE_tup, WE_op, opK_some, WE_un, WE_unN, unK_some, WE_b, bK_bl, WE_not, WE_and, WE_or, WE_ite, WE_andV, WE_orV, WE_notV, WS_seq, WS_set, WS_setN, WS_ret, WS_retN, WS_drop, WS_ifS, WS_pass, WS_never, WE_call, WE_callO, WE_opP, WE_n, WE_nl, WE_nnil, WE_ncons, WE_nd0, WE_pl, plK_d, plK_ol, plK_od, WS_for, WS_nx, WS_rt, WS_ex, WF_ok, WF_ex, WS_bindS, id, List.getElem?_cons_zero, List.getElem?_cons_succ, List.set_cons_zero, List.set_cons_succ, look, if_true, if_false, Bool.false_eq_true, Bool.not_true, Bool.not_false, List.map_cons, List.map_nil, List.replicate_succ, List.replicate_zero, List.cons_append, List.nil_append, decide_true, decide_false]
  refine iter _ _ _ _ _ _ ?_
  try simp only [WE_ok, WE_ex, WE_bind, WE_C, WE_var, WE_h, WE_i, WE_nil, WE_cons, WE_lst, WE_tup, WE_op, opK_some, WE_un, WE_unN, unK_some, WE_b, bK_bl, WE_not, WE_and, WE_or, WE_ite, WE_andV, WE_orV, WE_notV, WS_seq, WS_set, WS_setN, WS_ret, WS_retN, WS_drop, WS_ifS, WS_pass, WS_never, WE_call, WE_callO, WE_opP, WE_n, WE_nl, WE_nnil, WE_ncons, WE_nd0, WE_pl, plK_d, plK_ol, plK_od, WS_for, WS_nx, WS_rt, WS_ex, WF_ok, WF_ex, WS_bindS, id, List.getElem?_cons_zero, List.getElem?_cons_succ, List.set_cons_zero, List.set_cons_succ, look, if_true, if_false, Bool.false_eq_true, Bool.not_true, Bool.not_false, List.map_cons, List.map_nil, List.replicate_succ, List.replicate_zero, List.cons_append, List.nil_append, decide_true, decide_false]
  refine WE_ne_same hck rfl ?_
  try simp only [WE_ok, WE_ex, WE_bind, WE_C, WE_var, WE_h, WE_i, WE_nil, WE_cons, WE_lst, WE_tup, WE_op, opK_some, WE_un, WE_unN, unK_some, WE_b, bK_bl, WE_not, WE_and, WE_or, WE_ite, WE_andV, WE_orV, WE_notV, WS_seq, WS_set, WS_setN, WS_ret, WS_retN, WS_drop, WS_ifS, WS_pass, WS_never, WE_call, WE_callO, WE_opP, WE_n, WE_nl, WE_nnil, WE_ncons, WE_nd0, WE_pl, plK_d, plK_ol, plK_od, WS_for, WS_nx, WS_rt, WS_ex, WF_ok, WF_ex, WS_bindS, id, List.getElem?_cons_zero, List.getElem?_cons_succ, List.set_cons_zero, List.set_cons_succ, look, if_true, if_false, Bool.false_eq_true, Bool.not_true, Bool.not_false, List.map_cons, List.map_nil, List.replicate_succ, List.replicate_zero, List.cons_append, List.nil_append, decide_true, decide_false]
  refine iter _ _ _ _ _ _ ?_
  try simp only [WE_ok, WE_ex, WE_bind, WE_C, WE_var, WE_h, WE_i, WE_nil, WE_cons, WE_lst, WE_tup, WE_op, opK_some, WE_un, WE_unN, unK_some, WE_b, bK_bl, WE_not, WE_and, WE_or, WE_ite, WE_andV, WE_orV, WE_notV, WS_seq, WS_set, WS_setN, WS_ret, WS_retN, WS_drop, WS_ifS, WS_pass, WS_never, WE_call, WE_callO, WE_opP, WE_n, WE_nl, WE_nnil, WE_ncons, WE_nd0, WE_pl, plK_d, plK_ol, plK_od, WS_for, WS_nx, WS_rt, WS_ex, WF_ok, WF_ex, WS_bindS, id, List.getElem?_cons_zero, List.getElem?_cons_succ, List.set_cons_zero, List.set_cons_succ, look, if_true, if_false, Bool.false_eq_true, Bool.not_true, Bool.not_false, List.map_cons, List.map_nil, List.replicate_succ, List.replicate_zero, List.cons_append, List.nil_append, decide_true, decide_false]
  refine WE_ne_same hck rfl ?_
  try simp only [WE_lenO hok hg.len, WE_len, WE_ok, WE_ex, WE_bind, WE_C, WE_var, WE_h, WE_i, WE_nil, WE_cons, WE_lst, WE_tup, WE_op, opK_some, WE_un, WE_unN, unK_some, WE_b, bK_bl, WE_not, WE_and, WE_or, WE_ite, WE_andV, WE_orV, WE_notV, WS_seq, WS_set, WS_setN, WS_ret, WS_retN, WS_drop, WS_ifS, WS_pass, WS_never, WE_call, WE_callO, WE_opP, WE_n, WE_nl, WE_nnil, WE_ncons, WE_nd0, WE_pl, plK_d, plK_ol, plK_od, WS_for, WS_nx, WS_rt, WS_ex, WF_ok, WF_ex, WS_bindS, id, List.getElem?_cons_zero, List.getElem?_cons_succ, List.set_cons_zero, List.set_cons_succ, look, if_true, if_false, Bool.false_eq_true, Bool.not_true, Bool.not_false, List.map_cons, List.map_nil, List.replicate_succ, List.replicate_zero, List.cons_append, List.nil_append, decide_true, decide_false]
  rw [WE_neI]
  try simp only [List.length_map, sort_len, keys_len, WE_ok, WE_ex, WE_bind, WE_C, WE_var, WE_h, WE_i, WE_nil, WE_cons, WE_lst, WE_tup, WE_op, opK_some, WE_un, WE_unN, unK_some, WE_b, bK_bl, WE_not, WE_and, WE_or, WE_ite, WE_andV, WE_orV, WE_notV, WS_seq, WS_set, WS_setN, WS_ret, WS_retN, WS_drop, WS_ifS, WS_pass, WS_never, WE_call, WE_callO, WE_opP, WE_n, WE_nl, WE_nnil, WE_ncons, WE_nd0, WE_pl, plK_d, plK_ol, plK_od, WS_for, WS_nx, WS_rt, WS_ex, WF_ok, WF_ex, WS_bindS, id, List.getElem?_cons_zero, List.getElem?_cons_succ, List.set_cons_zero, List.set_cons_succ, look, if_true, if_false, Bool.false_eq_true, Bool.not_true, Bool.not_false, List.map_cons, List.map_nil, List.replicate_succ, List.replicate_zero, List.cons_append, List.nil_append, decide_true, decide_false]
  -- the images
  refine WE_lcm (sortS (keys d)) .str (fun x => .str ((val? d x).getD Str.empty)) ?_
  try simp only [WE_il, WE_ok, WE_ex, WE_bind, WE_C, WE_var, WE_h, WE_i, WE_nil, WE_cons, WE_lst, WE_tup, WE_op, opK_some, WE_un, WE_unN, unK_some, WE_b, bK_bl, WE_not, WE_and, WE_or, WE_ite, WE_andV, WE_orV, WE_notV, WS_seq, WS_set, WS_setN, WS_ret, WS_retN, WS_drop, WS_ifS, WS_pass, WS_never, WE_call, WE_callO, WE_opP, WE_n, WE_nl, WE_nnil, WE_ncons, WE_nd0, WE_pl, plK_d, plK_ol, plK_od, WS_for, WS_nx, WS_rt, WS_ex, WF_ok, WF_ex, WS_bindS, id, List.getElem?_cons_zero, List.getElem?_cons_succ, List.set_cons_zero, List.set_cons_succ, look, if_true, if_false, Bool.false_eq_true, Bool.not_true, Bool.not_false, List.map_cons, List.map_nil, List.replicate_succ, List.replicate_zero, List.cons_append, List.nil_append, decide_true, decide_false]
  refine ⟨rfl, srt_sz hg, rfl, fun x hx => ?_, ?_⟩
  · obtain ⟨w, ew, hw⟩ := val_get hg (mem_sort.mp hx)
    try simp only [WE_ixO hok hg ew, ew, WE_ok, WE_ex, WE_bind, WE_C, WE_var, WE_h, WE_i, WE_nil, WE_cons, WE_lst, WE_tup, WE_op, opK_some, WE_un, WE_unN, unK_some, WE_b, bK_bl, WE_not, WE_and, WE_or, WE_ite, WE_andV, WE_orV, WE_notV, WS_seq, WS_set, WS_setN, WS_ret, WS_retN, WS_drop, WS_ifS, WS_pass, WS_never, WE_call, WE_callO, WE_opP, WE_n, WE_nl, WE_nnil, WE_ncons, WE_nd0, WE_pl, plK_d, plK_ol, plK_od, WS_for, WS_nx, WS_rt, WS_ex, WF_ok, WF_ex, WS_bindS, id, List.getElem?_cons_zero, List.getElem?_cons_succ, List.set_cons_zero, List.set_cons_succ, look, if_true, if_false, Bool.false_eq_true, Bool.not_true, Bool.not_false, List.map_cons, List.map_nil, List.replicate_succ, List.replicate_zero, List.cons_append, List.nil_append, decide_true, decide_false]
    exact ⟨rfl, rfl⟩
  try simp only [WE_ok, WE_ex, WE_bind, WE_C, WE_var, WE_h, WE_i, WE_nil, WE_cons, WE_lst, WE_tup, WE_op, opK_some, WE_un, WE_unN, unK_some, WE_b, bK_bl, WE_not, WE_and, WE_or, WE_ite, WE_andV, WE_orV, WE_notV, WS_seq, WS_set, WS_setN, WS_ret, WS_retN, WS_drop, WS_ifS, WS_pass, WS_never, WE_call, WE_callO, WE_opP, WE_n, WE_nl, WE_nnil, WE_ncons, WE_nd0, WE_pl, plK_d, plK_ol, plK_od, WS_for, WS_nx, WS_rt, WS_ex, WF_ok, WF_ex, WS_bindS, id, List.getElem?_cons_zero, List.getElem?_cons_succ, List.set_cons_zero, List.set_cons_succ, look, if_true, if_false, Bool.false_eq_true, Bool.not_true, Bool.not_false, List.map_cons, List.map_nil, List.replicate_succ, List.replicate_zero, List.cons_append, List.nil_append, decide_true, decide_false]
  refine WE_lcm (sortS (keys d)) .str (fun x => .str ((val? d x).getD Str.empty)) ?_
  try simp only [WE_il, WE_ok, WE_ex, WE_bind, WE_C, WE_var, WE_h, WE_i, WE_nil, WE_cons, WE_lst, WE_tup, WE_op, opK_some, WE_un, WE_unN, unK_some, WE_b, bK_bl, WE_not, WE_and, WE_or, WE_ite, WE_andV, WE_orV, WE_notV, WS_seq, WS_set, WS_setN, WS_ret, WS_retN, WS_drop, WS_ifS, WS_pass, WS_never, WE_call, WE_callO, WE_opP, WE_n, WE_nl, WE_nnil, WE_ncons, WE_nd0, WE_pl, plK_d, plK_ol, plK_od, WS_for, WS_nx, WS_rt, WS_ex, WF_ok, WF_ex, WS_bindS, id, List.getElem?_cons_zero, List.getElem?_cons_succ, List.set_cons_zero, List.set_cons_succ, look, if_true, if_false, Bool.false_eq_true, Bool.not_true, Bool.not_false, List.map_cons, List.map_nil, List.replicate_succ, List.replicate_zero, List.cons_append, List.nil_append, decide_true, decide_false]
  refine ⟨rfl, srt_sz hg, rfl, fun x hx => ?_, ?_⟩
  · obtain ⟨w, ew, hw⟩ := val_get hg (mem_sort.mp hx)
    try simp only [WE_dget hT ((hv x).trans ew), ew, WE_ok, WE_ex, WE_bind, WE_C, WE_var, WE_h, WE_i, WE_nil, WE_cons, WE_lst, WE_tup, WE_op, opK_some, WE_un, WE_unN, unK_some, WE_b, bK_bl, WE_not, WE_and, WE_or, WE_ite, WE_andV, WE_orV, WE_notV, WS_seq, WS_set, WS_setN, WS_ret, WS_retN, WS_drop, WS_ifS, WS_pass, WS_never, WE_call, WE_callO, WE_opP, WE_n, WE_nl, WE_nnil, WE_ncons, WE_nd0, WE_pl, plK_d, plK_ol, plK_od, WS_for, WS_nx, WS_rt, WS_ex, WF_ok, WF_ex, WS_bindS, id, List.getElem?_cons_zero, List.getElem?_cons_succ, List.set_cons_zero, List.set_cons_succ, look, if_true, if_false, Bool.false_eq_true, Bool.not_true, Bool.not_false, List.map_cons, List.map_nil, List.replicate_succ, List.replicate_zero, List.cons_append, List.nil_append, decide_true, decide_false]
    exact ⟨rfl, rfl⟩
  try simp only [WE_ok, WE_ex, WE_bind, WE_C, WE_var, WE_h, WE_i, WE_nil, WE_cons, WE_lst, WE_tup, WE_op, opK_some, WE_un, WE_unN, unK_some, WE_b, bK_bl, WE_not, WE_and, WE_or, WE_ite, WE_andV, WE_orV, WE_notV, WS_seq, WS_set, WS_setN, WS_ret, WS_retN, WS_drop, WS_ifS, WS_pass, WS_never, WE_call, WE_callO, WE_opP, WE_n, WE_nl, WE_nnil, WE_ncons, WE_nd0, WE_pl, plK_d, plK_ol, plK_od, WS_for, WS_nx, WS_rt, WS_ex, WF_ok, WF_ex, WS_bindS, id, List.getElem?_cons_zero, List.getElem?_cons_succ, List.set_cons_zero, List.set_cons_succ, look, if_true, if_false, Bool.false_eq_true, Bool.not_true, Bool.not_false, List.map_cons, List.map_nil, List.replicate_succ, List.replicate_zero, List.cons_append, List.nil_append, decide_true, decide_false]
  have hci : cln 1 (.lst ((sortS (keys d)).map fun x => .str ((val? d x).getD Str.empty))) = true := by
    rw [show ((sortS (keys d)).map fun x => Dat.str ((val? d x).getD Str.empty)) = ((sortS (keys d)).map fun x => (val? d x).getD Str.empty).map .str by simp]
    refine cln_lst (clns_str fun y hy => ?_)
    obtain ⟨x, hx, rfl⟩ := List.mem_map.mp hy
    obtain ⟨w, ew, hw⟩ := val_get hg (mem_sort.mp hx)
    rw [ew]
    exact im_ok hw
  refine WE_ne_same hci rfl ?_
  try simp only [WE_fldC hok, WE_ok, WE_ex, WE_bind, WE_C, WE_var, WE_h, WE_i, WE_nil, WE_cons, WE_lst, WE_tup, WE_op, opK_some, WE_un, WE_unN, unK_some, WE_b, bK_bl, WE_not, WE_and, WE_or, WE_ite, WE_andV, WE_orV, WE_notV, WS_seq, WS_set, WS_setN, WS_ret, WS_retN, WS_drop, WS_ifS, WS_pass, WS_never, WE_call, WE_callO, WE_opP, WE_n, WE_nl, WE_nnil, WE_ncons, WE_nd0, WE_pl, plK_d, plK_ol, plK_od, WS_for, WS_nx, WS_rt, WS_ex, WF_ok, WF_ex, WS_bindS, id, List.getElem?_cons_zero, List.getElem?_cons_succ, List.set_cons_zero, List.set_cons_succ, look, if_true, if_false, Bool.false_eq_true, Bool.not_true, Bool.not_false, List.map_cons, List.map_nil, List.replicate_succ, List.replicate_zero, List.cons_append, List.nil_append, decide_true, decide_false]
  -- what is changed
  refine WE_lc (sortS (keys d)) .str (chg d) .str ?_
  try simp only [WE_il, WE_ok, WE_ex, WE_bind, WE_C, WE_var, WE_h, WE_i, WE_nil, WE_cons, WE_lst, WE_tup, WE_op, opK_some, WE_un, WE_unN, unK_some, WE_b, bK_bl, WE_not, WE_and, WE_or, WE_ite, WE_andV, WE_orV, WE_notV, WS_seq, WS_set, WS_setN, WS_ret, WS_retN, WS_drop, WS_ifS, WS_pass, WS_never, WE_call, WE_callO, WE_opP, WE_n, WE_nl, WE_nnil, WE_ncons, WE_nd0, WE_pl, plK_d, plK_ol, plK_od, WS_for, WS_nx, WS_rt, WS_ex, WF_ok, WF_ex, WS_bindS, id, List.getElem?_cons_zero, List.getElem?_cons_succ, List.set_cons_zero, List.set_cons_succ, look, if_true, if_false, Bool.false_eq_true, Bool.not_true, Bool.not_false, List.map_cons, List.map_nil, List.replicate_succ, List.replicate_zero, List.cons_append, List.nil_append, decide_true, decide_false]
  refine ⟨rfl, srt_sz hg, rfl, fun x hx => ?_, fun x hx _ => ?_, ?_⟩
  · obtain ⟨w, ew, hw⟩ := val_get hg (mem_sort.mp hx)
    try simp only [WE_dget hT ((hv x).trans ew), WE_ok, WE_ex, WE_bind, WE_C, WE_var, WE_h, WE_i, WE_nil, WE_cons, WE_lst, WE_tup, WE_op, opK_some, WE_un, WE_unN, unK_some, WE_b, bK_bl, WE_not, WE_and, WE_or, WE_ite, WE_andV, WE_orV, WE_notV, WS_seq, WS_set, WS_setN, WS_ret, WS_retN, WS_drop, WS_ifS, WS_pass, WS_never, WE_call, WE_callO, WE_opP, WE_n, WE_nl, WE_nnil, WE_ncons, WE_nd0, WE_pl, plK_d, plK_ol, plK_od, WS_for, WS_nx, WS_rt, WS_ex, WF_ok, WF_ex, WS_bindS, id, List.getElem?_cons_zero, List.getElem?_cons_succ, List.set_cons_zero, List.set_cons_succ, look, if_true, if_false, Bool.false_eq_true, Bool.not_true, Bool.not_false, List.map_cons, List.map_nil, List.replicate_succ, List.replicate_zero, List.cons_append, List.nil_append, decide_true, decide_false]
    rw [neS (im_ok hw) (lt_ok (lk_sorted hg x hx))]
    try simp only [chg, ew, Option.getD_some, WE_ok, WE_ex, WE_bind, WE_C, WE_var, WE_h, WE_i, WE_nil, WE_cons, WE_lst, WE_tup, WE_op, opK_some, WE_un, WE_unN, unK_some, WE_b, bK_bl, WE_not, WE_and, WE_or, WE_ite, WE_andV, WE_orV, WE_notV, WS_seq, WS_set, WS_setN, WS_ret, WS_retN, WS_drop, WS_ifS, WS_pass, WS_never, WE_call, WE_callO, WE_opP, WE_n, WE_nl, WE_nnil, WE_ncons, WE_nd0, WE_pl, plK_d, plK_ol, plK_od, WS_for, WS_nx, WS_rt, WS_ex, WF_ok, WF_ex, WS_bindS, id, List.getElem?_cons_zero, List.getElem?_cons_succ, List.set_cons_zero, List.set_cons_succ, look, if_true, if_false, Bool.false_eq_true, Bool.not_true, Bool.not_false, List.map_cons, List.map_nil, List.replicate_succ, List.replicate_zero, List.cons_append, List.nil_append, decide_true, decide_false]
    exact ⟨rfl, rfl⟩
  · try simp only [WE_ok, WE_ex, WE_bind, WE_C, WE_var, WE_h, WE_i, WE_nil, WE_cons, WE_lst, WE_tup, WE_op, opK_some, WE_un, WE_unN, unK_some, WE_b, bK_bl, WE_not, WE_and, WE_or, WE_ite, WE_andV, WE_orV, WE_notV, WS_seq, WS_set, WS_setN, WS_ret, WS_retN, WS_drop, WS_ifS, WS_pass, WS_never, WE_call, WE_callO, WE_opP, WE_n, WE_nl, WE_nnil, WE_ncons, WE_nd0, WE_pl, plK_d, plK_ol, plK_od, WS_for, WS_nx, WS_rt, WS_ex, WF_ok, WF_ex, WS_bindS, id, List.getElem?_cons_zero, List.getElem?_cons_succ, List.set_cons_zero, List.set_cons_succ, look, if_true, if_false, Bool.false_eq_true, Bool.not_true, Bool.not_false, List.map_cons, List.map_nil, List.replicate_succ, List.replicate_zero, List.cons_append, List.nil_append, decide_true, decide_false]
    exact ⟨rfl, rfl⟩
  try simp only [WE_tuple, WE_ok, WE_ex, WE_bind, WE_C, WE_var, WE_h, WE_i, WE_nil, WE_cons, WE_lst, WE_tup, WE_op, opK_some, WE_un, WE_unN, unK_some, WE_b, bK_bl, WE_not, WE_and, WE_or, WE_ite, WE_andV, WE_orV, WE_notV, WS_seq, WS_set, WS_setN, WS_ret, WS_retN, WS_drop, WS_ifS, WS_pass, WS_never, WE_call, WE_callO, WE_opP, WE_n, WE_nl, WE_nnil, WE_ncons, WE_nd0, WE_pl, plK_d, plK_ol, plK_od, WS_for, WS_nx, WS_rt, WS_ex, WF_ok, WF_ex, WS_bindS, id, List.getElem?_cons_zero, List.getElem?_cons_succ, List.set_cons_zero, List.set_cons_succ, look, if_true, if_false, Bool.false_eq_true, Bool.not_true, Bool.not_false, List.map_cons, List.map_nil, List.replicate_succ, List.replicate_zero, List.cons_append, List.nil_append, decide_true, decide_false]
  refine WE_ne_same (n := 1) (cln_tup (clns_str (strs_ok fun x hx => lk_sorted hg x (List.mem_filter.mp hx).1))) rfl ?_
  try simp only [hListW, listD_abcI, WE_ok, WE_ex, WE_bind, WE_C, WE_var, WE_h, WE_i, WE_nil, WE_cons, WE_lst, WE_tup, WE_op, opK_some, WE_un, WE_unN, unK_some, WE_b, bK_bl, WE_not, WE_and, WE_or, WE_ite, WE_andV, WE_orV, WE_notV, WS_seq, WS_set, WS_setN, WS_ret, WS_retN, WS_drop, WS_ifS, WS_pass, WS_never, WE_call, WE_callO, WE_opP, WE_n, WE_nl, WE_nnil, WE_ncons, WE_nd0, WE_pl, plK_d, plK_ol, plK_od, WS_for, WS_nx, WS_rt, WS_ex, WF_ok, WF_ex, WS_bindS, id, List.getElem?_cons_zero, List.getElem?_cons_succ, List.set_cons_zero, List.set_cons_succ, look, if_true, if_false, Bool.false_eq_true, Bool.not_true, Bool.not_false, List.map_cons, List.map_nil, List.replicate_succ, List.replicate_zero, List.cons_append, List.nil_append, decide_true, decide_false]
  -- in
  refine WE_lcm abcI .str (fun x => .bl (decide (x ∈ keys d))) ?_
  try simp only [WE_il, WE_ok, WE_ex, WE_bind, WE_C, WE_var, WE_h, WE_i, WE_nil, WE_cons, WE_lst, WE_tup, WE_op, opK_some, WE_un, WE_unN, unK_some, WE_b, bK_bl, WE_not, WE_and, WE_or, WE_ite, WE_andV, WE_orV, WE_notV, WS_seq, WS_set, WS_setN, WS_ret, WS_retN, WS_drop, WS_ifS, WS_pass, WS_never, WE_call, WE_callO, WE_opP, WE_n, WE_nl, WE_nnil, WE_ncons, WE_nd0, WE_pl, plK_d, plK_ol, plK_od, WS_for, WS_nx, WS_rt, WS_ex, WF_ok, WF_ex, WS_bindS, id, List.getElem?_cons_zero, List.getElem?_cons_succ, List.set_cons_zero, List.set_cons_succ, look, if_true, if_false, Bool.false_eq_true, Bool.not_true, Bool.not_false, List.map_cons, List.map_nil, List.replicate_succ, List.replicate_zero, List.cons_append, List.nil_append, decide_true, decide_false]
  have hab : abcI.length ≤ sizeLine := by rw [abcI_eq, abc_len]; exact szl (by decide)
  refine ⟨rfl, hab, rfl, fun x hx => ?_, ?_⟩
  · try simp only [WE_inO hok, WE_ok, WE_ex, WE_bind, WE_C, WE_var, WE_h, WE_i, WE_nil, WE_cons, WE_lst, WE_tup, WE_op, opK_some, WE_un, WE_unN, unK_some, WE_b, bK_bl, WE_not, WE_and, WE_or, WE_ite, WE_andV, WE_orV, WE_notV, WS_seq, WS_set, WS_setN, WS_ret, WS_retN, WS_drop, WS_ifS, WS_pass, WS_never, WE_call, WE_callO, WE_opP, WE_n, WE_nl, WE_nnil, WE_ncons, WE_nd0, WE_pl, plK_d, plK_ol, plK_od, WS_for, WS_nx, WS_rt, WS_ex, WF_ok, WF_ex, WS_bindS, id, List.getElem?_cons_zero, List.getElem?_cons_succ, List.set_cons_zero, List.set_cons_succ, look, if_true, if_false, Bool.false_eq_true, Bool.not_true, Bool.not_false, List.map_cons, List.map_nil, List.replicate_succ, List.replicate_zero, List.cons_append, List.nil_append, decide_true, decide_false]
    exact ⟨rfl, rfl⟩
  try simp only [WE_ok, WE_ex, WE_bind, WE_C, WE_var, WE_h, WE_i, WE_nil, WE_cons, WE_lst, WE_tup, WE_op, opK_some, WE_un, WE_unN, unK_some, WE_b, bK_bl, WE_not, WE_and, WE_or, WE_ite, WE_andV, WE_orV, WE_notV, WS_seq, WS_set, WS_setN, WS_ret, WS_retN, WS_drop, WS_ifS, WS_pass, WS_never, WE_call, WE_callO, WE_opP, WE_n, WE_nl, WE_nnil, WE_ncons, WE_nd0, WE_pl, plK_d, plK_ol, plK_od, WS_for, WS_nx, WS_rt, WS_ex, WF_ok, WF_ex, WS_bindS, id, List.getElem?_cons_zero, List.getElem?_cons_succ, List.set_cons_zero, List.set_cons_succ, look, if_true, if_false, Bool.false_eq_true, Bool.not_true, Bool.not_false, List.map_cons, List.map_nil, List.replicate_succ, List.replicate_zero, List.cons_append, List.nil_append, decide_true, decide_false]
  refine WE_lcm abcI .str (fun x => .bl (decide (x ∈ keys d))) ?_
  try simp only [WE_il, WE_ok, WE_ex, WE_bind, WE_C, WE_var, WE_h, WE_i, WE_nil, WE_cons, WE_lst, WE_tup, WE_op, opK_some, WE_un, WE_unN, unK_some, WE_b, bK_bl, WE_not, WE_and, WE_or, WE_ite, WE_andV, WE_orV, WE_notV, WS_seq, WS_set, WS_setN, WS_ret, WS_retN, WS_drop, WS_ifS, WS_pass, WS_never, WE_call, WE_callO, WE_opP, WE_n, WE_nl, WE_nnil, WE_ncons, WE_nd0, WE_pl, plK_d, plK_ol, plK_od, WS_for, WS_nx, WS_rt, WS_ex, WF_ok, WF_ex, WS_bindS, id, List.getElem?_cons_zero, List.getElem?_cons_succ, List.set_cons_zero, List.set_cons_succ, look, if_true, if_false, Bool.false_eq_true, Bool.not_true, Bool.not_false, List.map_cons, List.map_nil, List.replicate_succ, List.replicate_zero, List.cons_append, List.nil_append, decide_true, decide_false]
  refine ⟨rfl, hab, rfl, fun x hx => ?_, ?_⟩
  · try simp only [WE_din, hk, WE_ok, WE_ex, WE_bind, WE_C, WE_var, WE_h, WE_i, WE_nil, WE_cons, WE_lst, WE_tup, WE_op, opK_some, WE_un, WE_unN, unK_some, WE_b, bK_bl, WE_not, WE_and, WE_or, WE_ite, WE_andV, WE_orV, WE_notV, WS_seq, WS_set, WS_setN, WS_ret, WS_retN, WS_drop, WS_ifS, WS_pass, WS_never, WE_call, WE_callO, WE_opP, WE_n, WE_nl, WE_nnil, WE_ncons, WE_nd0, WE_pl, plK_d, plK_ol, plK_od, WS_for, WS_nx, WS_rt, WS_ex, WF_ok, WF_ex, WS_bindS, id, List.getElem?_cons_zero, List.getElem?_cons_succ, List.set_cons_zero, List.set_cons_succ, look, if_true, if_false, Bool.false_eq_true, Bool.not_true, Bool.not_false, List.map_cons, List.map_nil, List.replicate_succ, List.replicate_zero, List.cons_append, List.nil_append, decide_true, decide_false]
    exact ⟨rfl, rfl⟩
  try simp only [WE_ok, WE_ex, WE_bind, WE_C, WE_var, WE_h, WE_i, WE_nil, WE_cons, WE_lst, WE_tup, WE_op, opK_some, WE_un, WE_unN, unK_some, WE_b, bK_bl, WE_not, WE_and, WE_or, WE_ite, WE_andV, WE_orV, WE_notV, WS_seq, WS_set, WS_setN, WS_ret, WS_retN, WS_drop, WS_ifS, WS_pass, WS_never, WE_call, WE_callO, WE_opP, WE_n, WE_nl, WE_nnil, WE_ncons, WE_nd0, WE_pl, plK_d, plK_ol, plK_od, WS_for, WS_nx, WS_rt, WS_ex, WF_ok, WF_ex, WS_bindS, id, List.getElem?_cons_zero, List.getElem?_cons_succ, List.set_cons_zero, List.set_cons_succ, look, if_true, if_false, Bool.false_eq_true, Bool.not_true, Bool.not_false, List.map_cons, List.map_nil, List.replicate_succ, List.replicate_zero, List.cons_append, List.nil_append, decide_true, decide_false]
  rw [show (abcI.map fun x => Dat.bl (decide (x ∈ keys d))) = (abcI.map fun x => decide (x ∈ keys d)).map .bl by simp]
  refine WE_ne_bls rfl ?_
  try simp only [WE_join, WE_addS, WE_ok, WE_ex, WE_bind, WE_C, WE_var, WE_h, WE_i, WE_nil, WE_cons, WE_lst, WE_tup, WE_op, opK_some, WE_un, WE_unN, unK_some, WE_b, bK_bl, WE_not, WE_and, WE_or, WE_ite, WE_andV, WE_orV, WE_notV, WS_seq, WS_set, WS_setN, WS_ret, WS_retN, WS_drop, WS_ifS, WS_pass, WS_never, WE_call, WE_callO, WE_opP, WE_n, WE_nl, WE_nnil, WE_ncons, WE_nd0, WE_pl, plK_d, plK_ol, plK_od, WS_for, WS_nx, WS_rt, WS_ex, WF_ok, WF_ex, WS_bindS, id, List.getElem?_cons_zero, List.getElem?_cons_succ, List.set_cons_zero, List.set_cons_succ, look, if_true, if_false, Bool.false_eq_true, Bool.not_true, Bool.not_false, List.map_cons, List.map_nil, List.replicate_succ, List.replicate_zero, List.cons_append, List.nil_append, decide_true, decide_false]
  refine ⟨join0_c (lk_sorted hg) (by rw [sort_len, keys_len]; have := hg.len; omega), szl (by have := join_le hg; have : ("ab" : Str).length = 2 := (by decide +kernel); omega), sz12 (by simp), sz12 (by simp), sz12 (by simp), ?_⟩
  -- strange things
  have nk : ∀ x : Str, x.length ≠ 1 → x ∉ keys d := fun x hx hm => hx (ltlen (hg.key hm))
  have nA : ("A" : Str) ∉ keys d := fun hm => by
    obtain ⟨c, hc, e⟩ := hg.key hm
    have : (("A" : Str)).cps.toList = [c] := by rw [e]; rfl
    have e2 : (("A" : Str)).cps.toList = [65] := by decide +kernel
    rw [e2] at this
    cases this
    exact absurd hc (by unfold IsL; omega)
  have n0 : ("" : Str) ∉ keys d := nk _ (by decide +kernel)
  have nab : ("ab" : Str) ∉ keys d := nk _ (by decide +kernel)
  have nj : Txt.join ("" : Str) (sortS (keys d)) ++ ("ab" : Str) ∉ keys d := nk _ (by rw [add_len]; have : ("ab" : Str).length = 2 := (by decide +kernel); omega)
  refine WE_lc [.non, .int 0, .bl true, .str "", .str "A", .str "ab", .str (Txt.join "" (sortS (keys d)) ++ "ab"), .tup [.str "a"], .lst [.str "a"], .dic [], .dic (dK d')] id (fun _ => false) id ?_
  try simp only [WE_il, WE_ok, WE_ex, WE_bind, WE_C, WE_var, WE_h, WE_i, WE_nil, WE_cons, WE_lst, WE_tup, WE_op, opK_some, WE_un, WE_unN, unK_some, WE_b, bK_bl, WE_not, WE_and, WE_or, WE_ite, WE_andV, WE_orV, WE_notV, WS_seq, WS_set, WS_setN, WS_ret, WS_retN, WS_drop, WS_ifS, WS_pass, WS_never, WE_call, WE_callO, WE_opP, WE_n, WE_nl, WE_nnil, WE_ncons, WE_nd0, WE_pl, plK_d, plK_ol, plK_od, WS_for, WS_nx, WS_rt, WS_ex, WF_ok, WF_ex, WS_bindS, id, List.getElem?_cons_zero, List.getElem?_cons_succ, List.set_cons_zero, List.set_cons_succ, look, if_true, if_false, Bool.false_eq_true, Bool.not_true, Bool.not_false, List.map_cons, List.map_nil, List.replicate_succ, List.replicate_zero, List.cons_append, List.nil_append, decide_true, decide_false]
  refine ⟨by simp, sz12 (by simp), rfl, fun x hx => ?_, (fun x hx z => nomatch z), ?_⟩
  · show WE _ _ (gB (gOpP _ (gVar 6) (gVar 0)) ⟨[.d (mis CM r d), .d (.dic (dK d')), .d (.lst ((sortS (keys d)).map .str)), .d (.lst (abcI.map .str)), .d (.lst _), .no, .d x], p⟩)
    simp only [List.mem_cons, List.not_mem_nil, or_false] at hx
    rcases hx with rfl | rfl | rfl | rfl | rfl | rfl | rfl | rfl | rfl | rfl | rfl
    · try simp only [WE_inOth (y := .non) hok True.intro, WE_ok, WE_ex, WE_bind, WE_C, WE_var, WE_h, WE_i, WE_nil, WE_cons, WE_lst, WE_tup, WE_op, opK_some, WE_un, WE_unN, unK_some, WE_b, bK_bl, WE_not, WE_and, WE_or, WE_ite, WE_andV, WE_orV, WE_notV, WS_seq, WS_set, WS_setN, WS_ret, WS_retN, WS_drop, WS_ifS, WS_pass, WS_never, WE_call, WE_callO, WE_opP, WE_n, WE_nl, WE_nnil, WE_ncons, WE_nd0, WE_pl, plK_d, plK_ol, plK_od, WS_for, WS_nx, WS_rt, WS_ex, WF_ok, WF_ex, WS_bindS, id, List.getElem?_cons_zero, List.getElem?_cons_succ, List.set_cons_zero, List.set_cons_succ, look, if_true, if_false, Bool.false_eq_true, Bool.not_true, Bool.not_false, List.map_cons, List.map_nil, List.replicate_succ, List.replicate_zero, List.cons_append, List.nil_append, decide_true, decide_false]; exact ⟨rfl, rfl⟩
    · try simp only [WE_inOth (y := .int 0) hok True.intro, WE_ok, WE_ex, WE_bind, WE_C, WE_var, WE_h, WE_i, WE_nil, WE_cons, WE_lst, WE_tup, WE_op, opK_some, WE_un, WE_unN, unK_some, WE_b, bK_bl, WE_not, WE_and, WE_or, WE_ite, WE_andV, WE_orV, WE_notV, WS_seq, WS_set, WS_setN, WS_ret, WS_retN, WS_drop, WS_ifS, WS_pass, WS_never, WE_call, WE_callO, WE_opP, WE_n, WE_nl, WE_nnil, WE_ncons, WE_nd0, WE_pl, plK_d, plK_ol, plK_od, WS_for, WS_nx, WS_rt, WS_ex, WF_ok, WF_ex, WS_bindS, id, List.getElem?_cons_zero, List.getElem?_cons_succ, List.set_cons_zero, List.set_cons_succ, look, if_true, if_false, Bool.false_eq_true, Bool.not_true, Bool.not_false, List.map_cons, List.map_nil, List.replicate_succ, List.replicate_zero, List.cons_append, List.nil_append, decide_true, decide_false]; exact ⟨rfl, rfl⟩
    · try simp only [WE_inOth (y := .bl true) hok True.intro, WE_ok, WE_ex, WE_bind, WE_C, WE_var, WE_h, WE_i, WE_nil, WE_cons, WE_lst, WE_tup, WE_op, opK_some, WE_un, WE_unN, unK_some, WE_b, bK_bl, WE_not, WE_and, WE_or, WE_ite, WE_andV, WE_orV, WE_notV, WS_seq, WS_set, WS_setN, WS_ret, WS_retN, WS_drop, WS_ifS, WS_pass, WS_never, WE_call, WE_callO, WE_opP, WE_n, WE_nl, WE_nnil, WE_ncons, WE_nd0, WE_pl, plK_d, plK_ol, plK_od, WS_for, WS_nx, WS_rt, WS_ex, WF_ok, WF_ex, WS_bindS, id, List.getElem?_cons_zero, List.getElem?_cons_succ, List.set_cons_zero, List.set_cons_succ, look, if_true, if_false, Bool.false_eq_true, Bool.not_true, Bool.not_false, List.map_cons, List.map_nil, List.replicate_succ, List.replicate_zero, List.cons_append, List.nil_append, decide_true, decide_false]; exact ⟨rfl, rfl⟩
    · try simp only [WE_inO hok, decide_eq_false n0, WE_ok, WE_ex, WE_bind, WE_C, WE_var, WE_h, WE_i, WE_nil, WE_cons, WE_lst, WE_tup, WE_op, opK_some, WE_un, WE_unN, unK_some, WE_b, bK_bl, WE_not, WE_and, WE_or, WE_ite, WE_andV, WE_orV, WE_notV, WS_seq, WS_set, WS_setN, WS_ret, WS_retN, WS_drop, WS_ifS, WS_pass, WS_never, WE_call, WE_callO, WE_opP, WE_n, WE_nl, WE_nnil, WE_ncons, WE_nd0, WE_pl, plK_d, plK_ol, plK_od, WS_for, WS_nx, WS_rt, WS_ex, WF_ok, WF_ex, WS_bindS, id, List.getElem?_cons_zero, List.getElem?_cons_succ, List.set_cons_zero, List.set_cons_succ, look, if_true, if_false, Bool.false_eq_true, Bool.not_true, Bool.not_false, List.map_cons, List.map_nil, List.replicate_succ, List.replicate_zero, List.cons_append, List.nil_append, decide_true, decide_false]; exact ⟨rfl, rfl⟩
    · try simp only [WE_inO hok, decide_eq_false nA, WE_ok, WE_ex, WE_bind, WE_C, WE_var, WE_h, WE_i, WE_nil, WE_cons, WE_lst, WE_tup, WE_op, opK_some, WE_un, WE_unN, unK_some, WE_b, bK_bl, WE_not, WE_and, WE_or, WE_ite, WE_andV, WE_orV, WE_notV, WS_seq, WS_set, WS_setN, WS_ret, WS_retN, WS_drop, WS_ifS, WS_pass, WS_never, WE_call, WE_callO, WE_opP, WE_n, WE_nl, WE_nnil, WE_ncons, WE_nd0, WE_pl, plK_d, plK_ol, plK_od, WS_for, WS_nx, WS_rt, WS_ex, WF_ok, WF_ex, WS_bindS, id, List.getElem?_cons_zero, List.getElem?_cons_succ, List.set_cons_zero, List.set_cons_succ, look, if_true, if_false, Bool.false_eq_true, Bool.not_true, Bool.not_false, List.map_cons, List.map_nil, List.replicate_succ, List.replicate_zero, List.cons_append, List.nil_append, decide_true, decide_false]; exact ⟨rfl, rfl⟩
    · try simp only [WE_inO hok, decide_eq_false nab, WE_ok, WE_ex, WE_bind, WE_C, WE_var, WE_h, WE_i, WE_nil, WE_cons, WE_lst, WE_tup, WE_op, opK_some, WE_un, WE_unN, unK_some, WE_b, bK_bl, WE_not, WE_and, WE_or, WE_ite, WE_andV, WE_orV, WE_notV, WS_seq, WS_set, WS_setN, WS_ret, WS_retN, WS_drop, WS_ifS, WS_pass, WS_never, WE_call, WE_callO, WE_opP, WE_n, WE_nl, WE_nnil, WE_ncons, WE_nd0, WE_pl, plK_d, plK_ol, plK_od, WS_for, WS_nx, WS_rt, WS_ex, WF_ok, WF_ex, WS_bindS, id, List.getElem?_cons_zero, List.getElem?_cons_succ, List.set_cons_zero, List.set_cons_succ, look, if_true, if_false, Bool.false_eq_true, Bool.not_true, Bool.not_false, List.map_cons, List.map_nil, List.replicate_succ, List.replicate_zero, List.cons_append, List.nil_append, decide_true, decide_false]; exact ⟨rfl, rfl⟩
    · try simp only [WE_inO hok, decide_eq_false nj, WE_ok, WE_ex, WE_bind, WE_C, WE_var, WE_h, WE_i, WE_nil, WE_cons, WE_lst, WE_tup, WE_op, opK_some, WE_un, WE_unN, unK_some, WE_b, bK_bl, WE_not, WE_and, WE_or, WE_ite, WE_andV, WE_orV, WE_notV, WS_seq, WS_set, WS_setN, WS_ret, WS_retN, WS_drop, WS_ifS, WS_pass, WS_never, WE_call, WE_callO, WE_opP, WE_n, WE_nl, WE_nnil, WE_ncons, WE_nd0, WE_pl, plK_d, plK_ol, plK_od, WS_for, WS_nx, WS_rt, WS_ex, WF_ok, WF_ex, WS_bindS, id, List.getElem?_cons_zero, List.getElem?_cons_succ, List.set_cons_zero, List.set_cons_succ, look, if_true, if_false, Bool.false_eq_true, Bool.not_true, Bool.not_false, List.map_cons, List.map_nil, List.replicate_succ, List.replicate_zero, List.cons_append, List.nil_append, decide_true, decide_false]; exact ⟨rfl, rfl⟩
    · try simp only [WE_inOth (y := .tup [.str "a"]) hok True.intro, WE_ok, WE_ex, WE_bind, WE_C, WE_var, WE_h, WE_i, WE_nil, WE_cons, WE_lst, WE_tup, WE_op, opK_some, WE_un, WE_unN, unK_some, WE_b, bK_bl, WE_not, WE_and, WE_or, WE_ite, WE_andV, WE_orV, WE_notV, WS_seq, WS_set, WS_setN, WS_ret, WS_retN, WS_drop, WS_ifS, WS_pass, WS_never, WE_call, WE_callO, WE_opP, WE_n, WE_nl, WE_nnil, WE_ncons, WE_nd0, WE_pl, plK_d, plK_ol, plK_od, WS_for, WS_nx, WS_rt, WS_ex, WF_ok, WF_ex, WS_bindS, id, List.getElem?_cons_zero, List.getElem?_cons_succ, List.set_cons_zero, List.set_cons_succ, look, if_true, if_false, Bool.false_eq_true, Bool.not_true, Bool.not_false, List.map_cons, List.map_nil, List.replicate_succ, List.replicate_zero, List.cons_append, List.nil_append, decide_true, decide_false]; exact ⟨rfl, rfl⟩
    · try simp only [WE_inOth (y := .lst [.str "a"]) hok True.intro, WE_ok, WE_ex, WE_bind, WE_C, WE_var, WE_h, WE_i, WE_nil, WE_cons, WE_lst, WE_tup, WE_op, opK_some, WE_un, WE_unN, unK_some, WE_b, bK_bl, WE_not, WE_and, WE_or, WE_ite, WE_andV, WE_orV, WE_notV, WS_seq, WS_set, WS_setN, WS_ret, WS_retN, WS_drop, WS_ifS, WS_pass, WS_never, WE_call, WE_callO, WE_opP, WE_n, WE_nl, WE_nnil, WE_ncons, WE_nd0, WE_pl, plK_d, plK_ol, plK_od, WS_for, WS_nx, WS_rt, WS_ex, WF_ok, WF_ex, WS_bindS, id, List.getElem?_cons_zero, List.getElem?_cons_succ, List.set_cons_zero, List.set_cons_succ, look, if_true, if_false, Bool.false_eq_true, Bool.not_true, Bool.not_false, List.map_cons, List.map_nil, List.replicate_succ, List.replicate_zero, List.cons_append, List.nil_append, decide_true, decide_false]; exact ⟨rfl, rfl⟩
    · try simp only [WE_inOth (y := .dic []) hok True.intro, WE_ok, WE_ex, WE_bind, WE_C, WE_var, WE_h, WE_i, WE_nil, WE_cons, WE_lst, WE_tup, WE_op, opK_some, WE_un, WE_unN, unK_some, WE_b, bK_bl, WE_not, WE_and, WE_or, WE_ite, WE_andV, WE_orV, WE_notV, WS_seq, WS_set, WS_setN, WS_ret, WS_retN, WS_drop, WS_ifS, WS_pass, WS_never, WE_call, WE_callO, WE_opP, WE_n, WE_nl, WE_nnil, WE_ncons, WE_nd0, WE_pl, plK_d, plK_ol, plK_od, WS_for, WS_nx, WS_rt, WS_ex, WF_ok, WF_ex, WS_bindS, id, List.getElem?_cons_zero, List.getElem?_cons_succ, List.set_cons_zero, List.set_cons_succ, look, if_true, if_false, Bool.false_eq_true, Bool.not_true, Bool.not_false, List.map_cons, List.map_nil, List.replicate_succ, List.replicate_zero, List.cons_append, List.nil_append, decide_true, decide_false]; exact ⟨rfl, rfl⟩
    · try simp only [WE_inOth (y := .dic (dK d')) hok True.intro, WE_ok, WE_ex, WE_bind, WE_C, WE_var, WE_h, WE_i, WE_nil, WE_cons, WE_lst, WE_tup, WE_op, opK_some, WE_un, WE_unN, unK_some, WE_b, bK_bl, WE_not, WE_and, WE_or, WE_ite, WE_andV, WE_orV, WE_notV, WS_seq, WS_set, WS_setN, WS_ret, WS_retN, WS_drop, WS_ifS, WS_pass, WS_never, WE_call, WE_callO, WE_opP, WE_n, WE_nl, WE_nnil, WE_ncons, WE_nd0, WE_pl, plK_d, plK_ol, plK_od, WS_for, WS_nx, WS_rt, WS_ex, WF_ok, WF_ex, WS_bindS, id, List.getElem?_cons_zero, List.getElem?_cons_succ, List.set_cons_zero, List.set_cons_succ, look, if_true, if_false, Bool.false_eq_true, Bool.not_true, Bool.not_false, List.map_cons, List.map_nil, List.replicate_succ, List.replicate_zero, List.cons_append, List.nil_append, decide_true, decide_false]; exact ⟨rfl, rfl⟩
  try simp only [List.filter_false, WE_ok, WE_ex, WE_bind, WE_C, WE_var, WE_h, WE_i, WE_nil, WE_cons, WE_lst, WE_tup, WE_op, opK_some, WE_un, WE_unN, unK_some, WE_b, bK_bl, WE_not, WE_and, WE_or, WE_ite, WE_andV, WE_orV, WE_notV, WS_seq, WS_set, WS_setN, WS_ret, WS_retN, WS_drop, WS_ifS, WS_pass, WS_never, WE_call, WE_callO, WE_opP, WE_n, WE_nl, WE_nnil, WE_ncons, WE_nd0, WE_pl, plK_d, plK_ol, plK_od, WS_for, WS_nx, WS_rt, WS_ex, WF_ok, WF_ex, WS_bindS, id, List.getElem?_cons_zero, List.getElem?_cons_succ, List.set_cons_zero, List.set_cons_succ, look, if_true, if_false, Bool.false_eq_true, Bool.not_true, Bool.not_false, List.map_cons, List.map_nil, List.replicate_succ, List.replicate_zero, List.cons_append, List.nil_append, decide_true, decide_false]
  refine ⟨Nat.zero_le _, ?_⟩
  refine WE_ne_same (n := 1) rfl rfl ?_
  try simp only [WE_strO hok hg, WE_orT, WE_ok, WE_ex, WE_bind, WE_C, WE_var, WE_h, WE_i, WE_nil, WE_cons, WE_lst, WE_tup, WE_op, opK_some, WE_un, WE_unN, unK_some, WE_b, bK_bl, WE_not, WE_and, WE_or, WE_ite, WE_andV, WE_orV, WE_notV, WS_seq, WS_set, WS_setN, WS_ret, WS_retN, WS_drop, WS_ifS, WS_pass, WS_never, WE_call, WE_callO, WE_opP, WE_n, WE_nl, WE_nnil, WE_ncons, WE_nd0, WE_pl, plK_d, plK_ol, plK_od, WS_for, WS_nx, WS_rt, WS_ex, WF_ok, WF_ex, WS_bindS, id, List.getElem?_cons_zero, List.getElem?_cons_succ, List.set_cons_zero, List.set_cons_succ, look, if_true, if_false, Bool.false_eq_true, Bool.not_true, Bool.not_false, List.map_cons, List.map_nil, List.replicate_succ, List.replicate_zero, List.cons_append, List.nil_append, decide_true, decide_false]
  refine WE_lcm (sortS (keys d)) .str (fun x => .str (word d x)) ?_
  try simp only [WE_il, WE_ok, WE_ex, WE_bind, WE_C, WE_var, WE_h, WE_i, WE_nil, WE_cons, WE_lst, WE_tup, WE_op, opK_some, WE_un, WE_unN, unK_some, WE_b, bK_bl, WE_not, WE_and, WE_or, WE_ite, WE_andV, WE_orV, WE_notV, WS_seq, WS_set, WS_setN, WS_ret, WS_retN, WS_drop, WS_ifS, WS_pass, WS_never, WE_call, WE_callO, WE_opP, WE_n, WE_nl, WE_nnil, WE_ncons, WE_nd0, WE_pl, plK_d, plK_ol, plK_od, WS_for, WS_nx, WS_rt, WS_ex, WF_ok, WF_ex, WS_bindS, id, List.getElem?_cons_zero, List.getElem?_cons_succ, List.set_cons_zero, List.set_cons_succ, look, if_true, if_false, Bool.false_eq_true, Bool.not_true, Bool.not_false, List.map_cons, List.map_nil, List.replicate_succ, List.replicate_zero, List.cons_append, List.nil_append, decide_true, decide_false]
  refine ⟨rfl, srt_sz hg, rfl, fun x hx => ?_, ?_⟩
  · have hx := mem_sort.mp hx
    obtain ⟨w, ew, hw⟩ := val_get hg hx
    have l1 := (word_len hg hx).1
    have hwd : word d x = x ++ (":" : Str) ++ w := by rw [word, ew]; rfl
    rw [hwd, add_len, add_len] at l1
    try simp only [WE_addS, WE_dget hT ((hv x).trans ew), WE_ok, WE_ex, WE_bind, WE_C, WE_var, WE_h, WE_i, WE_nil, WE_cons, WE_lst, WE_tup, WE_op, opK_some, WE_un, WE_unN, unK_some, WE_b, bK_bl, WE_not, WE_and, WE_or, WE_ite, WE_andV, WE_orV, WE_notV, WS_seq, WS_set, WS_setN, WS_ret, WS_retN, WS_drop, WS_ifS, WS_pass, WS_never, WE_call, WE_callO, WE_opP, WE_n, WE_nl, WE_nnil, WE_ncons, WE_nd0, WE_pl, plK_d, plK_ol, plK_od, WS_for, WS_nx, WS_rt, WS_ex, WF_ok, WF_ex, WS_bindS, id, List.getElem?_cons_zero, List.getElem?_cons_succ, List.set_cons_zero, List.set_cons_succ, look, if_true, if_false, Bool.false_eq_true, Bool.not_true, Bool.not_false, List.map_cons, List.map_nil, List.replicate_succ, List.replicate_zero, List.cons_append, List.nil_append, decide_true, decide_false]
    refine ⟨szl (by omega), szl (by rw [add_len]; omega), by rw [hwd], rfl⟩
  rw [show ((sortS (keys d)).map fun x => Dat.str (word d x)) = ((sortS (keys d)).map (word d)).map .str by simp]
  try simp only [WE_join, truD_str (szl (joined_len hg)), WE_ok, WE_ex, WE_bind, WE_C, WE_var, WE_h, WE_i, WE_nil, WE_cons, WE_lst, WE_tup, WE_op, opK_some, WE_un, WE_unN, unK_some, WE_b, bK_bl, WE_not, WE_and, WE_or, WE_ite, WE_andV, WE_orV, WE_notV, WS_seq, WS_set, WS_setN, WS_ret, WS_retN, WS_drop, WS_ifS, WS_pass, WS_never, WE_call, WE_callO, WE_opP, WE_n, WE_nl, WE_nnil, WE_ncons, WE_nd0, WE_pl, plK_d, plK_ol, plK_od, WS_for, WS_nx, WS_rt, WS_ex, WF_ok, WF_ex, WS_bindS, id, List.getElem?_cons_zero, List.getElem?_cons_succ, List.set_cons_zero, List.set_cons_succ, look, if_true, if_false, Bool.false_eq_true, Bool.not_true, Bool.not_false, List.map_cons, List.map_nil, List.replicate_succ, List.replicate_zero, List.cons_append, List.nil_append, decide_true, decide_false]
  refine ⟨words_sum hg rfl, ?_⟩
  by_cases h0 : d.length = 0
  · have e := joined_nil (d := d) h0
    rw [e]
    try simp only [show decide (("" : Str).length ≠ 0) = false by decide +kernel, WE_ok, WE_ex, WE_bind, WE_C, WE_var, WE_h, WE_i, WE_nil, WE_cons, WE_lst, WE_tup, WE_op, opK_some, WE_un, WE_unN, unK_some, WE_b, bK_bl, WE_not, WE_and, WE_or, WE_ite, WE_andV, WE_orV, WE_notV, WS_seq, WS_set, WS_setN, WS_ret, WS_retN, WS_drop, WS_ifS, WS_pass, WS_never, WE_call, WE_callO, WE_opP, WE_n, WE_nl, WE_nnil, WE_ncons, WE_nd0, WE_pl, plK_d, plK_ol, plK_od, WS_for, WS_nx, WS_rt, WS_ex, WF_ok, WF_ex, WS_bindS, id, List.getElem?_cons_zero, List.getElem?_cons_succ, List.set_cons_zero, List.set_cons_succ, look, if_true, if_false, Bool.false_eq_true, Bool.not_true, Bool.not_false, List.map_cons, List.map_nil, List.replicate_succ, List.replicate_zero, List.cons_append, List.nil_append, decide_true, decide_false]
    refine WE_eq_same (n := 0) (cln_s (shown_ok hg)) (by rw [shown, if_pos h0]) ?_
    exact hR
  · try simp only [decide_eq_true (joined_pos hg h0), WE_ok, WE_ex, WE_bind, WE_C, WE_var, WE_h, WE_i, WE_nil, WE_cons, WE_lst, WE_tup, WE_op, opK_some, WE_un, WE_unN, unK_some, WE_b, bK_bl, WE_not, WE_and, WE_or, WE_ite, WE_andV, WE_orV, WE_notV, WS_seq, WS_set, WS_setN, WS_ret, WS_retN, WS_drop, WS_ifS, WS_pass, WS_never, WE_call, WE_callO, WE_opP, WE_n, WE_nl, WE_nnil, WE_ncons, WE_nd0, WE_pl, plK_d, plK_ol, plK_od, WS_for, WS_nx, WS_rt, WS_ex, WF_ok, WF_ex, WS_bindS, id, List.getElem?_cons_zero, List.getElem?_cons_succ, List.set_cons_zero, List.set_cons_succ, look, if_true, if_false, Bool.false_eq_true, Bool.not_true, Bool.not_false, List.map_cons, List.map_nil, List.replicate_succ, List.replicate_zero, List.cons_append, List.nil_append, decide_true, decide_false]
    refine WE_eq_same (n := 0) (cln_s (shown_ok hg)) (by rw [shown, if_neg h0]) ?_
    exact hR
end
end BD
namespace BD
open PySem PySem.Spec PyProof.Rows L2
/-- what the class does, as far as the law leans on it -/
structure Sem (ok : Addr → Bool) (CM : Addr) (tys : List Value) (GM : FI) (GS GE GH GG_ GL GT : FD) : Prop where
  ok : ok CM = true
  tM : tys.any (fun t => t == Value.ref CM) = true
  tS : tys.any (fun t => t == Value.type "str") = true
  tI : tys.any (fun t => t == Value.type "int") = true
  tD : tys.any (fun t => t == Value.type "dict") = true
  make : ∀ (d : Dat) (t : List (Str × Str)) (z : Str) (p : Pen), IsT d t → Good t → Wd z → z.length ≤ 2000 → (Due t z).length ≤ 12 → ∃ r, GM [d, .str z] p = .ok (flds r (Due t z)) p
  same : ∀ (z : Str) (p : Pen), Wd z → z.length ≤ 2000 → (Due [] z).length ≤ 12 → ∃ r, GS [.str z] p = .ok (mis CM r (Due [] z)) p
  eq : ∀ r d r' d' p, GE [mis CM r d, mis CM r' d'] p = .ok (.bl (eqT d d')) p
  eqO : ∀ r d y p, (NoStr y ∨ ∃ x, y = .str x) → GE [mis CM r d, y] p = .ok (.bl false) p
theorem nil_wd : Wd "" := fun c h => by
  have e : (("" : Str)).cps.toList = [] := by decide +kernel
  rw [e] at h
  cases h
theorem nil_len : ("" : Str).length = 0 := by decide +kernel
theorem chars_nil : chars "" = [] := by decide +kernel
theorem due_nil {t : List (Str × Str)} (hn : (keys t).Nodup) : Due t "" = t := by
  unfold Due
  rw [chars_nil]
  exact mer_nil hn
section
variable {ok : Addr → Bool} {CM : Addr} {tys : List Value} {GM : FI} {GS GE GH GG_ GL GT : FD} {E : EX} {s : DSt} {Q : Dat → DSt → Prop}
theorem WE_makeK {C : Addr} {n m : Nat} {gD : List Dat → List Dat → List Dat} {G : FI} {ga gk : DSt → Out (List Dat)} : WE Q E (gMakeK C n m gD G ga gk s) = WE (fun ds s1 => WE (fun es s2 => (ds.length = n ∧ es.length = m) ∧ WI (fun fs q => Q (.ins C fs) ⟨s2.env, q⟩) E (G (gD ds es) s2.pen)) E (gk s1)) E (ga s) := by
  unfold gMakeK
  rw [WE_bind]
  congr
  funext ds s1
  rw [WE_bind]
  congr
  funext es s2
  rw [WE_ifno]
  congr
  cases G (gD ds es) s2.pen <;> rfl
theorem WI_eq {R : List (Str × Dat) → Pen → Prop} {o : OutI} {fs : List (Str × Dat)} {q : Pen} (e : o = .ok fs q) (h : R fs q) : WI R E o := by rw [e]; exact h
theorem WI_make (S : Sem ok CM tys GM GS GE GH GG_ GL GT) {R : List (Str × Dat) → Pen → Prop} {d : Dat} {t : List (Str × Str)} {z : Str} {p : Pen} (hT : IsT d t) (hg : Good t) (hz : Wd z) (hl : z.length ≤ 2000) (h12 : (Due t z).length ≤ 12) (h : ∀ r, R (flds r (Due t z)) p) : WI R E (GM [d, .str z] p) := by
  obtain ⟨r, e⟩ := S.make d t z p hT hg hz hl h12
  exact WI_eq e (h r)
theorem WI_make1 (S : Sem ok CM tys GM GS GE GH GG_ GL GT) {R : List (Str × Dat) → Pen → Prop} {d : Dat} {t : List (Str × Str)} {p : Pen} (hT : IsT d t) (hg : Good t) (h : ∀ r, R (flds r t) p) : WI R E (GM [d, .str ""] p) := by
  refine WI_make S hT hg nil_wd (by rw [nil_len]; omega) (by rw [due_nil hg.nd]; exact hg.len) fun r => ?_
  rw [due_nil hg.nd]
  exact h r
theorem WF_same (S : Sem ok CM tys GM GS GE GH GG_ GL GT) {R : Dat → Pen → Prop} {z : Str} {p : Pen} (hz : Wd z) (hl : z.length ≤ 2000) (h12 : (Due [] z).length ≤ 12) (h : ∀ r, R (mis CM r (Due [] z)) p) : WF R E (GS [.str z] p) := by
  obtain ⟨r, e⟩ := S.same z p hz hl h12
  exact WF_eq e (h r)
theorem WE_eqO (S : Sem ok CM tys GM GS GE GH GG_ GL GT) {n : Bool} {r r' : List Str} {d d' : List (Str × Str)} : WE Q E (hEqO n ok tys GE (mis CM r d) (mis CM r' d') s) = Q (.bl (n != eqT d d')) s := by
  have e := S.eq r d r' d' s.pen
  have h : ok CM = true ∧ isPen (.ins CM (flds r' d')) = false ∧ tys.any (fun t => t == tyD (.ins CM (flds r' d'))) = true := ⟨S.ok, rfl, S.tM⟩
  unfold hEqO mis at *
  simp only [h, and_self, if_true, callO, e, Out.bind, WE_ok]
theorem WE_eqOth (S : Sem ok CM tys GM GS GE GH GG_ GL GT) {n : Bool} {r : List Str} {d : List (Str × Str)} {y : Dat} (hy : NoStr y ∨ ∃ x, y = .str x) (hp : isPen y = false) (ht : tys.any (fun t => t == tyD y) = true) : WE Q E (hEqO n ok tys GE (mis CM r d) y s) = Q (.bl n) s := by
  have e := S.eqO r d y s.pen hy
  have h : ok CM = true ∧ isPen y = false ∧ tys.any (fun t => t == tyD y) = true := ⟨S.ok, hp, ht⟩
  unfold hEqO mis at *
  simp only [h, and_self, if_true, callO, e, Out.bind, WE_ok]
  cases n <;> rfl
theorem WF_draw {R : Dat → Pen → Prop} {m : Int} {n : Nat} {p : Pen} (hm : 0 < m) (hm2 : m ≤ 1000) (h : Bg (n + 1) p) (k : ∀ (k : Nat) p', (k : Int) < m → Bg n p' → R (.int k) p') : WF R E (drawF dc [.pen, .int m] p) := by
  obtain ⟨j, p', e, hj, hb⟩ := draw_ok hm hm2 h
  exact WF_eq e (k j p' hj hb)
theorem WF_pick {R : Dat → Pen → Prop} {xs : List Dat} {n : Nat} {p : Pen} (hx : 0 < xs.length) (hx2 : xs.length ≤ 1000) (h : Bg (n + 1) p) (k : ∀ y p', y ∈ xs → Bg n p' → R y p') : WF R E (F__law_pick ok CM tys GM GS GE GH GG_ GL GT [.pen, .lst xs] p) := by
  obtain ⟨y, p', e, hy, hb⟩ := pick_ok (ok := ok) (CM := CM) (tys := tys) (GM := GM) (GS := GS) (GE := GE) (GH := GH) (GG_ := GG_) (GL := GL) (GT := GT) hx hx2 h
  exact WF_eq e (k y p' hy hb)
theorem WE_rev {xs : List Dat} : WE Q E (hRev (.lst xs) s) = Q (.lst xs.reverse) s := rfl
theorem WE_nd {d : Dat} {t : List (Str × Str)} {Q : DV → DSt → Prop} (hT : IsT d t) : WE Q E (hNdict d s) = Q (.od (dK t)) s := by
  rcases hT with rfl | rfl <;> rfl
theorem WE_ndp {v : List (Str × Str)} {Q : DV → DSt → Prop} : WE Q E (hNdict (.lst (v.map fun q => .tup [.str q.1, .str q.2])) s) = Q (.od (dK (merT [] v))) s := by
  have em : mergeD [] (dK v) = dK (merT [] v) := dK_mer [] v
  simp only [hNdict, pairs_map, em, WE_ok]
theorem WE_par {i j : Nat} {g : DSt → Out (List DV)} {N : DSt → Prop} {R : Dat → Pen → Prop} : WS N R E (gPar i j g s) = WE (fun ds s1 => pK N i j s1 ds) E (g s) := by
  unfold gPar
  rw [WS_bindS]
  congr
  funext ds s1
  match ds with
  | [] => rfl
  | [_] => rfl
  | [_, _] => rfl
  | _ :: _ :: _ :: _ => rfl
theorem pK_two {N : DSt → Prop} {i j : Nat} {a b : DV} : pK N i j s [a, b] = N ⟨(s.env.set i a).set j b, s.pen⟩ := rfl
theorem WS_dput {j : Nat} {gk gv : DSt → Out Dat} {N : DSt → Prop} {R : Dat → Pen → Prop} : WS N R E (gDPut j gk gv s) = WE (fun v s1 => isOd s1 j = true ∧ WE (fun k s2 => WS N R E (dput j v k s2)) E (gk s1)) E (gv s) := by
  unfold gDPut
  rw [WS_bindS]
  congr
  funext v s1
  rw [WS_ifno, WS_bindS]
theorem WE_dpop {j : Nat} {g : DSt → Out Dat} : WE Q E (gDPop j g s) = (isOd s j = true ∧ WE (fun k s2 => WE Q E (dpop j k s2)) E (g s)) := by
  unfold gDPop
  rw [WE_ifno, WE_bind]
end
theorem dropD_dK {t : List (Str × Str)} {x : Str} : dropD (dK t) (.inr x) = dK (t.filter fun q => !decide (q.1 = x)) := by
  unfold dropD dK
  rw [List.filter_map]
  congr 1
  apply List.filter_congr
  intro q _
  simp [Function.comp_def]
theorem good_sub {t u : List (Str × Str)} (hg : Good t) (h : ∀ q ∈ u, q ∈ t) (hn : (keys u).Nodup) : Good u := by
  refine ⟨fun q hq => hg.lt q (h q hq), fun q hq => hg.im q (h q hq), hn, ?_⟩
  have := nodup_le hn (m := keys t) fun x hx => by
    obtain ⟨q, hq, rfl⟩ := List.mem_map.mp hx
    exact List.mem_map.mpr ⟨q, h q hq, rfl⟩
  rw [keys_len, keys_len] at this
  have := hg.len
  omega
theorem keys_filter {t : List (Str × Str)} {b : Str → Bool} : keys (t.filter fun q => b q.1) = (keys t).filter b := by
  unfold keys
  rw [List.filter_map]
  rfl
theorem drop_good {t : List (Str × Str)} (hg : Good t) (x : Str) : Good (t.filter fun q => !decide (q.1 = x)) :=
  good_sub hg (fun q hq => (List.mem_filter.mp hq).1) (by rw [keys_filter (b := fun y => !decide (y = x))]; exact hg.nd.filter _)
theorem drop_len {t : List (Str × Str)} {x : Str} (hx : x ∈ keys t) : (t.filter fun q => !decide (q.1 = x)).length < t.length := by
  obtain ⟨q, hq, rfl⟩ := List.mem_map.mp hx
  rcases Nat.lt_or_ge (t.filter fun r => !decide (r.1 = q.1)).length t.length with h | h
  · exact h
  · have h2 := List.length_filter_le (fun r : Str × Str => !decide (r.1 = q.1)) t
    have := (List.length_filter_eq_length_iff.mp (Nat.le_antisymm h2 h)) q hq
    simp at this
theorem put_good {t : List (Str × Str)} (hg : Good t) {x w : Str} (hx : x ∈ keys t) (hw : Im w) : Good (putT t x w) := by
  refine ⟨fun q hq => ?_, fun q hq => ?_, nodup_put hg.nd, ?_⟩
  · rcases mem_put hq with h | rfl
    · exact hg.lt q h
    · exact hg.key hx
  · rcases mem_put hq with h | rfl
    · exact hg.im q h
    · exact hw
  · rw [put_old hx, List.length_map]
    exact hg.len
theorem eqT_put {t : List (Str × Str)} {x w w0 : Str} (hn : (keys t).Nodup) (h0 : val? t x = some w0) : eqT (putT t x w) t = decide (w = w0) := by
  have hx : x ∈ keys t := List.mem_map.mpr ⟨_, val_mem h0, rfl⟩
  rw [Bool.eq_iff_iff, eqT_iff, decide_eq_true_iff]
  constructor
  · rintro ⟨_, h⟩
    have := h x (by rw [keys_put_old hx]; exact hx)
    rw [h0, val_put_self] at this
    exact (Option.some.inj this).symm
  · rintro rfl
    refine ⟨by rw [put_old hx, List.length_map], fun y hy => ?_⟩
    by_cases e : y = x
    · subst e
      rw [h0, val_put_self]
    · rw [val_put_ne e]
theorem eqT_len {t u : List (Str × Str)} (h : t.length ≠ u.length) : eqT t u = false := by
  cases e : eqT t u with
  | false => rfl
  | true => exact (h (eqT_iff.mp e).1).elim
theorem eqT_same {t u : List (Str × Str)} (hl : t.length = u.length) (h : ∀ x, val? u x = val? t x) : eqT t u = true := eqT_iff.mpr ⟨hl, fun x _ => h x⟩
theorem keys_rev (t : List (Str × Str)) : keys t.reverse = (keys t).reverse := by simp [keys]
theorem val_rev {t : List (Str × Str)} (hn : (keys t).Nodup) (x : Str) : val? t.reverse x = val? t x := by
  have hn' : (keys t.reverse).Nodup := by rw [keys_rev]; exact (List.reverse_perm _).nodup_iff.mpr hn
  cases e : val? t x with
  | none =>
    refine val_keys.mpr fun h => val_keys.mp e ?_
    rw [keys_rev] at h
    exact List.mem_reverse.mp h
  | some w => exact val_nodup hn' (List.mem_reverse.mpr (val_mem e))
theorem rev_good {t : List (Str × Str)} (hg : Good t) : Good t.reverse := good_sub hg (fun q hq => List.mem_reverse.mp hq) (by rw [keys_rev]; exact (List.reverse_perm _).nodup_iff.mpr hg.nd)
/-- the pairs of a table, letter by letter -/
theorem pairs_back {t : List (Str × Str)} (hn : (keys t).Nodup) : ∀ {u : List (Str × Str)}, (∀ q ∈ u, q ∈ t) → (keys u).map (fun x => Dat.tup [.str x, .str ((val? t x).getD Str.empty)]) = u.map fun q => .tup [.str q.1, .str q.2]
  | [], _ => rfl
  | q :: u, h => by
    have e := val_nodup hn (h q (List.mem_cons_self ..))
    show Dat.tup [.str q.1, .str ((val? t q.1).getD Str.empty)] :: (keys u).map _ = _
    rw [pairs_back hn fun r hr => h r (List.mem_cons_of_mem _ hr), e]
    rfl
end BD
namespace BD
open PySem PySem.Spec PyProof.Rows L2
section
variable {cs subs others : List Addr} {ok : Addr → Bool} {CM : Addr} {tys : List Value} {GM : FI} {GS GE GH GG_ GL : FD} {r : List Str} {d : List (Str × Str)} {p : Pen}
theorem WE_neB {Q : Dat → DSt → Prop} {E : EX} {s : DSt} {a b : Bool} : WE Q E (hNe (.bl a) (.bl b) s) = Q (.bl (a != b)) s := by
  cases a <;> cases b <;> rfl
theorem q_im : Im "qq" ∧ Im "x" ∧ Im "y" ∧ Im "zzzz" := by
  have h : ∀ w : Str, (∀ c ∈ w.cps.toList, 97 ≤ c ∧ c ≤ 122) → 1 ≤ w.length → w.length ≤ 4 → Im w := fun w h1 h2 h3 => ⟨h1, h2, h3⟩
  refine ⟨h _ ?_ ?_ ?_, h _ ?_ ?_ ?_, h _ ?_ ?_ ?_, h _ ?_ ?_ ?_⟩ <;> decide +kernel
theorem q_wd : Wd "q" := by
  have h : ∀ w : Str, (∀ c ∈ w.cps.toList, 97 ≤ c ∧ c ≤ 122) → Wd w := fun w h1 => h1
  exact h _ (by decide +kernel)
theorem due_q : (Due [] "q").length = 1 := by decide +kernel
theorem other_ok (S : Sem ok CM tys GM GS GE GH GG_ GL (FDof 1 1 (g_m_str cs subs others CM ok))) (hg : Good d) {n : Nat} (hb : Bg (n + 2) p) {R : Dat → Pen → Prop} (hR : ∀ p', Bg n p' → R (.bl true) p') :
    WF R X0 (F__law_other_right ok CM tys GM GS GE GH GG_ GL (FDof 1 1 (g_m_str cs subs others CM ok)) [.pen, mis CM r d, .dic (dK d)] p) := by
  have hT : IsT (.dic (dK d)) d := .inl rfl
  have hsz : (keys d).length ≤ sizeLine := by rw [keys_len]; exact sz12 hg.len
  refine WF_def ⟨rfl, ?_⟩
  show WS _ _ _ (g__law_other_right ok CM tys GM GS GE GH GG_ GL _ ⟨[.d .pen, .d (mis CM r d), .d (.dic (dK d)), .no, .no, .no, .no, .no], p⟩)
  unfold g__law_other_right
  try simp only [hListW, listD, dicOf, Option.map_some, dK_keys, WE_makeK, WE_ok, WE_ex, WE_bind, WE_C, WE_var, WE_h, WE_i, WE_nil, WE_cons, WE_lst, WE_tup, WE_op, opK_some, WE_un, WE_unN, unK_some, WE_b, bK_bl, WE_not, WE_and, WE_or, WE_ite, WE_andV, WE_orV, WE_notV, WS_seq, WS_set, WS_setN, WS_ret, WS_retN, WS_drop, WS_ifS, WS_pass, WS_never, WE_call, WE_callO, WE_opP, WE_n, WE_nl, WE_nnil, WE_ncons, WE_nd0, WE_pl, plK_d, plK_ol, plK_od, WS_for, WS_nx, WS_rt, WS_ex, WF_ok, WF_ex, WS_bindS, id, List.getElem?_cons_zero, List.getElem?_cons_succ, List.set_cons_zero, List.set_cons_succ, look, if_true, if_false, Bool.false_eq_true, Bool.not_true, Bool.not_false, List.map_cons, List.map_nil, List.replicate_succ, List.replicate_zero, List.cons_append, List.nil_append, decide_true, decide_false]
  refine WE_lcm (keys d).reverse .str (fun x => .tup [.str x, .str ((val? d x).getD Str.empty)]) ?_
  try simp only [WE_il, WE_rev, WE_ok, WE_ex, WE_bind, WE_C, WE_var, WE_h, WE_i, WE_nil, WE_cons, WE_lst, WE_tup, WE_op, opK_some, WE_un, WE_unN, unK_some, WE_b, bK_bl, WE_not, WE_and, WE_or, WE_ite, WE_andV, WE_orV, WE_notV, WS_seq, WS_set, WS_setN, WS_ret, WS_retN, WS_drop, WS_ifS, WS_pass, WS_never, WE_call, WE_callO, WE_opP, WE_n, WE_nl, WE_nnil, WE_ncons, WE_nd0, WE_pl, plK_d, plK_ol, plK_od, WS_for, WS_nx, WS_rt, WS_ex, WF_ok, WF_ex, WS_bindS, id, List.getElem?_cons_zero, List.getElem?_cons_succ, List.set_cons_zero, List.set_cons_succ, look, if_true, if_false, Bool.false_eq_true, Bool.not_true, Bool.not_false, List.map_cons, List.map_nil, List.replicate_succ, List.replicate_zero, List.cons_append, List.nil_append, decide_true, decide_false]
  refine ⟨by rw [List.map_reverse], by rw [List.length_reverse]; exact hsz, rfl, fun x hx => ?_, ?_⟩
  · obtain ⟨w, ew, hw⟩ := val_get hg (List.mem_reverse.mp hx)
    try simp only [WE_dget hT ew, ew, WE_ok, WE_ex, WE_bind, WE_C, WE_var, WE_h, WE_i, WE_nil, WE_cons, WE_lst, WE_tup, WE_op, opK_some, WE_un, WE_unN, unK_some, WE_b, bK_bl, WE_not, WE_and, WE_or, WE_ite, WE_andV, WE_orV, WE_notV, WS_seq, WS_set, WS_setN, WS_ret, WS_retN, WS_drop, WS_ifS, WS_pass, WS_never, WE_call, WE_callO, WE_opP, WE_n, WE_nl, WE_nnil, WE_ncons, WE_nd0, WE_pl, plK_d, plK_ol, plK_od, WS_for, WS_nx, WS_rt, WS_ex, WF_ok, WF_ex, WS_bindS, id, List.getElem?_cons_zero, List.getElem?_cons_succ, List.set_cons_zero, List.set_cons_succ, look, if_true, if_false, Bool.false_eq_true, Bool.not_true, Bool.not_false, List.map_cons, List.map_nil, List.replicate_succ, List.replicate_zero, List.cons_append, List.nil_append, decide_true, decide_false]
    exact ⟨sz12 (by simp), rfl, rfl⟩
  rw [← keys_rev, pairs_back hg.nd fun q hq => List.mem_reverse.mp hq]
  try simp only [WE_ndp, fm1, WE_ok, WE_ex, WE_bind, WE_C, WE_var, WE_h, WE_i, WE_nil, WE_cons, WE_lst, WE_tup, WE_op, opK_some, WE_un, WE_unN, unK_some, WE_b, bK_bl, WE_not, WE_and, WE_or, WE_ite, WE_andV, WE_orV, WE_notV, WS_seq, WS_set, WS_setN, WS_ret, WS_retN, WS_drop, WS_ifS, WS_pass, WS_never, WE_call, WE_callO, WE_opP, WE_n, WE_nl, WE_nnil, WE_ncons, WE_nd0, WE_pl, plK_d, plK_ol, plK_od, WS_for, WS_nx, WS_rt, WS_ex, WF_ok, WF_ex, WS_bindS, id, List.getElem?_cons_zero, List.getElem?_cons_succ, List.set_cons_zero, List.set_cons_succ, look, if_true, if_false, Bool.false_eq_true, Bool.not_true, Bool.not_false, List.map_cons, List.map_nil, List.replicate_succ, List.replicate_zero, List.cons_append, List.nil_append, decide_true, decide_false]
  have hgr := rev_good hg
  rw [mer_nil hgr.nd]
  refine ⟨by simp, WI_make1 S (.inl rfl) hgr fun r' => ?_⟩
  show WE _ _ (hEqO true ok tys GE (mis CM r' d.reverse) (mis CM r d) _)
  try simp only [WE_eqO S, eqT_same (t := d.reverse) (u := d) (by simp) (fun x => (val_rev hg.nd x).symm), bne_self_eq_false, WE_ok, WE_ex, WE_bind, WE_C, WE_var, WE_h, WE_i, WE_nil, WE_cons, WE_lst, WE_tup, WE_op, opK_some, WE_un, WE_unN, unK_some, WE_b, bK_bl, WE_not, WE_and, WE_or, WE_ite, WE_andV, WE_orV, WE_notV, WS_seq, WS_set, WS_setN, WS_ret, WS_retN, WS_drop, WS_ifS, WS_pass, WS_never, WE_call, WE_callO, WE_opP, WE_n, WE_nl, WE_nnil, WE_ncons, WE_nd0, WE_pl, plK_d, plK_ol, plK_od, WS_for, WS_nx, WS_rt, WS_ex, WF_ok, WF_ex, WS_bindS, id, List.getElem?_cons_zero, List.getElem?_cons_succ, List.set_cons_zero, List.set_cons_succ, look, if_true, if_false, Bool.false_eq_true, Bool.not_true, Bool.not_false, List.map_cons, List.map_nil, List.replicate_succ, List.replicate_zero, List.cons_append, List.nil_append, decide_true, decide_false]
  try simp only [WE_eqOth S (n := false) (r := r) (d := d) (y := .dic (dK d)) (.inl True.intro) rfl S.tD, WE_ok, WE_ex, WE_bind, WE_C, WE_var, WE_h, WE_i, WE_nil, WE_cons, WE_lst, WE_tup, WE_op, opK_some, WE_un, WE_unN, unK_some, WE_b, bK_bl, WE_not, WE_and, WE_or, WE_ite, WE_andV, WE_orV, WE_notV, WS_seq, WS_set, WS_setN, WS_ret, WS_retN, WS_drop, WS_ifS, WS_pass, WS_never, WE_call, WE_callO, WE_opP, WE_n, WE_nl, WE_nnil, WE_ncons, WE_nd0, WE_pl, plK_d, plK_ol, plK_od, WS_for, WS_nx, WS_rt, WS_ex, WF_ok, WF_ex, WS_bindS, id, List.getElem?_cons_zero, List.getElem?_cons_succ, List.set_cons_zero, List.set_cons_succ, look, if_true, if_false, Bool.false_eq_true, Bool.not_true, Bool.not_false, List.map_cons, List.map_nil, List.replicate_succ, List.replicate_zero, List.cons_append, List.nil_append, decide_true, decide_false]
  try simp only [WE_strO S.ok hg, WE_eqOth S (n := false) (r := r) (d := d) (y := .str (shown d)) (.inr ⟨_, rfl⟩) rfl S.tS, WE_ok, WE_ex, WE_bind, WE_C, WE_var, WE_h, WE_i, WE_nil, WE_cons, WE_lst, WE_tup, WE_op, opK_some, WE_un, WE_unN, unK_some, WE_b, bK_bl, WE_not, WE_and, WE_or, WE_ite, WE_andV, WE_orV, WE_notV, WS_seq, WS_set, WS_setN, WS_ret, WS_retN, WS_drop, WS_ifS, WS_pass, WS_never, WE_call, WE_callO, WE_opP, WE_n, WE_nl, WE_nnil, WE_ncons, WE_nd0, WE_pl, plK_d, plK_ol, plK_od, WS_for, WS_nx, WS_rt, WS_ex, WF_ok, WF_ex, WS_bindS, id, List.getElem?_cons_zero, List.getElem?_cons_succ, List.set_cons_zero, List.set_cons_succ, look, if_true, if_false, Bool.false_eq_true, Bool.not_true, Bool.not_false, List.map_cons, List.map_nil, List.replicate_succ, List.replicate_zero, List.cons_append, List.nil_append, decide_true, decide_false]
  -- the empty table
  have e2 : eqD2 (.dic (dK d)) (.dic []) = some (decide (d.length = 0)) := by
    show eqKs (dK d) [] = _
    unfold eqKs
    rw [dK_len]
    show (if d.length = 0 then _ else _) = _
    by_cases h : d.length = 0
    · rw [if_pos h, List.eq_nil_of_length_eq_zero h]
      rfl
    · rw [if_neg h, decide_eq_false h]
  try simp only [hEq2, e2, WE_ok, WE_ex, WE_bind, WE_C, WE_var, WE_h, WE_i, WE_nil, WE_cons, WE_lst, WE_tup, WE_op, opK_some, WE_un, WE_unN, unK_some, WE_b, bK_bl, WE_not, WE_and, WE_or, WE_ite, WE_andV, WE_orV, WE_notV, WS_seq, WS_set, WS_setN, WS_ret, WS_retN, WS_drop, WS_ifS, WS_pass, WS_never, WE_call, WE_callO, WE_opP, WE_n, WE_nl, WE_nnil, WE_ncons, WE_nd0, WE_pl, plK_d, plK_ol, plK_od, WS_for, WS_nx, WS_rt, WS_ex, WF_ok, WF_ex, WS_bindS, id, List.getElem?_cons_zero, List.getElem?_cons_succ, List.set_cons_zero, List.set_cons_succ, look, if_true, if_false, Bool.false_eq_true, Bool.not_true, Bool.not_false, List.map_cons, List.map_nil, List.replicate_succ, List.replicate_zero, List.cons_append, List.nil_append, decide_true, decide_false]
  by_cases h0 : d.length = 0
  · have hd := List.eq_nil_of_length_eq_zero h0
    subst hd
    try simp only [h0, WE_makeK, fm1, WE_ok, WE_ex, WE_bind, WE_C, WE_var, WE_h, WE_i, WE_nil, WE_cons, WE_lst, WE_tup, WE_op, opK_some, WE_un, WE_unN, unK_some, WE_b, bK_bl, WE_not, WE_and, WE_or, WE_ite, WE_andV, WE_orV, WE_notV, WS_seq, WS_set, WS_setN, WS_ret, WS_retN, WS_drop, WS_ifS, WS_pass, WS_never, WE_call, WE_callO, WE_opP, WE_n, WE_nl, WE_nnil, WE_ncons, WE_nd0, WE_pl, plK_d, plK_ol, plK_od, WS_for, WS_nx, WS_rt, WS_ex, WF_ok, WF_ex, WS_bindS, id, List.getElem?_cons_zero, List.getElem?_cons_succ, List.set_cons_zero, List.set_cons_succ, look, if_true, if_false, Bool.false_eq_true, Bool.not_true, Bool.not_false, List.map_cons, List.map_nil, List.replicate_succ, List.replicate_zero, List.cons_append, List.nil_append, decide_true, decide_false]
    refine ⟨by simp, WI_make1 S (t := []) (.inl rfl) hg fun r' => ?_⟩
    show WE _ _ (hEqO false ok tys GE (mis CM r []) (mis CM r' []) _)
    try simp only [WE_eqO S, eqT_same (t := []) (u := []) rfl (fun _ => rfl), Bool.false_bne, WE_ok, WE_ex, WE_bind, WE_C, WE_var, WE_h, WE_i, WE_nil, WE_cons, WE_lst, WE_tup, WE_op, opK_some, WE_un, WE_unN, unK_some, WE_b, bK_bl, WE_not, WE_and, WE_or, WE_ite, WE_andV, WE_orV, WE_notV, WS_seq, WS_set, WS_setN, WS_ret, WS_retN, WS_drop, WS_ifS, WS_pass, WS_never, WE_call, WE_callO, WE_opP, WE_n, WE_nl, WE_nnil, WE_ncons, WE_nd0, WE_pl, plK_d, plK_ol, plK_od, WS_for, WS_nx, WS_rt, WS_ex, WF_ok, WF_ex, WS_bindS, id, List.getElem?_cons_zero, List.getElem?_cons_succ, List.set_cons_zero, List.set_cons_succ, look, if_true, if_false, Bool.false_eq_true, Bool.not_true, Bool.not_false, List.map_cons, List.map_nil, List.replicate_succ, List.replicate_zero, List.cons_append, List.nil_append, decide_true, decide_false]
    refine WF_same S q_wd (by decide +kernel) (by rw [due_q]; decide) fun r' => ?_
    try simp only [WE_eqO S, eqT_len (t := []) (u := Due [] "q") (by rw [due_q]; decide), Bool.bne_false, WE_ok, WE_ex, WE_bind, WE_C, WE_var, WE_h, WE_i, WE_nil, WE_cons, WE_lst, WE_tup, WE_op, opK_some, WE_un, WE_unN, unK_some, WE_b, bK_bl, WE_not, WE_and, WE_or, WE_ite, WE_andV, WE_orV, WE_notV, WS_seq, WS_set, WS_setN, WS_ret, WS_retN, WS_drop, WS_ifS, WS_pass, WS_never, WE_call, WE_callO, WE_opP, WE_n, WE_nl, WE_nnil, WE_ncons, WE_nd0, WE_pl, plK_d, plK_ol, plK_od, WS_for, WS_nx, WS_rt, WS_ex, WF_ok, WF_ex, WS_bindS, id, List.getElem?_cons_zero, List.getElem?_cons_succ, List.set_cons_zero, List.set_cons_succ, look, if_true, if_false, Bool.false_eq_true, Bool.not_true, Bool.not_false, List.map_cons, List.map_nil, List.replicate_succ, List.replicate_zero, List.cons_append, List.nil_append, decide_true, decide_false]
    exact hR _ (hb.mono (by omega))
  try simp only [decide_eq_false h0, WE_ok, WE_ex, WE_bind, WE_C, WE_var, WE_h, WE_i, WE_nil, WE_cons, WE_lst, WE_tup, WE_op, opK_some, WE_un, WE_unN, unK_some, WE_b, bK_bl, WE_not, WE_and, WE_or, WE_ite, WE_andV, WE_orV, WE_notV, WS_seq, WS_set, WS_setN, WS_ret, WS_retN, WS_drop, WS_ifS, WS_pass, WS_never, WE_call, WE_callO, WE_opP, WE_n, WE_nl, WE_nnil, WE_ncons, WE_nd0, WE_pl, plK_d, plK_ol, plK_od, WS_for, WS_nx, WS_rt, WS_ex, WF_ok, WF_ex, WS_bindS, id, List.getElem?_cons_zero, List.getElem?_cons_succ, List.set_cons_zero, List.set_cons_succ, look, if_true, if_false, Bool.false_eq_true, Bool.not_true, Bool.not_false, List.map_cons, List.map_nil, List.replicate_succ, List.replicate_zero, List.cons_append, List.nil_append, decide_true, decide_false]
  have hkp : 0 < ((keys d).map Dat.str).length := by rw [List.length_map, keys_len]; omega
  refine WF_pick (n := n + 1) hkp (by rw [List.length_map, keys_len]; have := hg.len; omega) hb fun y p1 hy hb1 => ?_
  obtain ⟨x, hx, rfl⟩ := List.mem_map.mp hy
  obtain ⟨w0, e0, hw0⟩ := val_get hg hx
  try simp only [WE_par, WE_nd hT, pK_two, WE_dpop, isOd, WE_ok, WE_ex, WE_bind, WE_C, WE_var, WE_h, WE_i, WE_nil, WE_cons, WE_lst, WE_tup, WE_op, opK_some, WE_un, WE_unN, unK_some, WE_b, bK_bl, WE_not, WE_and, WE_or, WE_ite, WE_andV, WE_orV, WE_notV, WS_seq, WS_set, WS_setN, WS_ret, WS_retN, WS_drop, WS_ifS, WS_pass, WS_never, WE_call, WE_callO, WE_opP, WE_n, WE_nl, WE_nnil, WE_ncons, WE_nd0, WE_pl, plK_d, plK_ol, plK_od, WS_for, WS_nx, WS_rt, WS_ex, WF_ok, WF_ex, WS_bindS, id, List.getElem?_cons_zero, List.getElem?_cons_succ, List.set_cons_zero, List.set_cons_succ, look, if_true, if_false, Bool.false_eq_true, Bool.not_true, Bool.not_false, List.map_cons, List.map_nil, List.replicate_succ, List.replicate_zero, List.cons_append, List.nil_append, decide_true, decide_false]
  have ev : valD (dK d) (.inr x) = some (.str w0) := by rw [dK_val, e0]; rfl
  try simp only [dpop, keyD, ev, dropD_dK, WS_dput, WE_ok, WE_ex, WE_bind, WE_C, WE_var, WE_h, WE_i, WE_nil, WE_cons, WE_lst, WE_tup, WE_op, opK_some, WE_un, WE_unN, unK_some, WE_b, bK_bl, WE_not, WE_and, WE_or, WE_ite, WE_andV, WE_orV, WE_notV, WS_seq, WS_set, WS_setN, WS_ret, WS_retN, WS_drop, WS_ifS, WS_pass, WS_never, WE_call, WE_callO, WE_opP, WE_n, WE_nl, WE_nnil, WE_ncons, WE_nd0, WE_pl, plK_d, plK_ol, plK_od, WS_for, WS_nx, WS_rt, WS_ex, WF_ok, WF_ex, WS_bindS, id, List.getElem?_cons_zero, List.getElem?_cons_succ, List.set_cons_zero, List.set_cons_succ, look, if_true, if_false, Bool.false_eq_true, Bool.not_true, Bool.not_false, List.map_cons, List.map_nil, List.replicate_succ, List.replicate_zero, List.cons_append, List.nil_append, decide_true, decide_false]
  refine ⟨trivial, sz12 (by simp), ?_⟩
  refine WF_pick (n := n) (by simp) (by simp) hb1 fun y p2 hy hb2 => ?_
  obtain ⟨w, rfl, hw⟩ : ∃ w, y = .str w ∧ Im w := by
    simp only [List.mem_cons, List.not_mem_nil, or_false] at hy
    obtain ⟨i1, i2, i3, i4⟩ := q_im
    rcases hy with rfl | rfl | rfl | rfl
    · exact ⟨_, rfl, i1⟩
    · exact ⟨_, rfl, i2⟩
    · exact ⟨_, rfl, i3⟩
    · exact ⟨_, rfl, i4⟩
  have hsz2 : (dK d).length < sizeLine := by rw [dK_len, sizeLine_eq]; have := hg.len; omega
  try simp only [isOd, dput, keyD, hsz2, dK_put, WE_makeK, fm1, WE_ok, WE_ex, WE_bind, WE_C, WE_var, WE_h, WE_i, WE_nil, WE_cons, WE_lst, WE_tup, WE_op, opK_some, WE_un, WE_unN, unK_some, WE_b, bK_bl, WE_not, WE_and, WE_or, WE_ite, WE_andV, WE_orV, WE_notV, WS_seq, WS_set, WS_setN, WS_ret, WS_retN, WS_drop, WS_ifS, WS_pass, WS_never, WE_call, WE_callO, WE_opP, WE_n, WE_nl, WE_nnil, WE_ncons, WE_nd0, WE_pl, plK_d, plK_ol, plK_od, WS_for, WS_nx, WS_rt, WS_ex, WF_ok, WF_ex, WS_bindS, id, List.getElem?_cons_zero, List.getElem?_cons_succ, List.set_cons_zero, List.set_cons_succ, look, if_true, if_false, Bool.false_eq_true, Bool.not_true, Bool.not_false, List.map_cons, List.map_nil, List.replicate_succ, List.replicate_zero, List.cons_append, List.nil_append, decide_true, decide_false]
  have hgo := put_good hg hx hw
  refine ⟨trivial, by simp, WI_make1 S (.inl rfl) hgo fun r' => ?_⟩
  show WE _ _ (hEqO false ok tys GE (mis CM r' (putT d x w)) (mis CM r d) _)
  try simp only [WE_eqO S, eqT_put hg.nd e0, Bool.false_bne, WE_dget (t := putT d x w) (.inl rfl) val_put_self, WE_dget hT e0, WE_ok, WE_ex, WE_bind, WE_C, WE_var, WE_h, WE_i, WE_nil, WE_cons, WE_lst, WE_tup, WE_op, opK_some, WE_un, WE_unN, unK_some, WE_b, bK_bl, WE_not, WE_and, WE_or, WE_ite, WE_andV, WE_orV, WE_notV, WS_seq, WS_set, WS_setN, WS_ret, WS_retN, WS_drop, WS_ifS, WS_pass, WS_never, WE_call, WE_callO, WE_opP, WE_n, WE_nl, WE_nnil, WE_ncons, WE_nd0, WE_pl, plK_d, plK_ol, plK_od, WS_for, WS_nx, WS_rt, WS_ex, WF_ok, WF_ex, WS_bindS, id, List.getElem?_cons_zero, List.getElem?_cons_succ, List.set_cons_zero, List.set_cons_succ, look, if_true, if_false, Bool.false_eq_true, Bool.not_true, Bool.not_false, List.map_cons, List.map_nil, List.replicate_succ, List.replicate_zero, List.cons_append, List.nil_append, decide_true, decide_false]
  rw [hEqS (im_ok hw) (im_ok hw0)]
  try simp only [WE_ok, WE_ex, WE_bind, WE_C, WE_var, WE_h, WE_i, WE_nil, WE_cons, WE_lst, WE_tup, WE_op, opK_some, WE_un, WE_unN, unK_some, WE_b, bK_bl, WE_not, WE_and, WE_or, WE_ite, WE_andV, WE_orV, WE_notV, WS_seq, WS_set, WS_setN, WS_ret, WS_retN, WS_drop, WS_ifS, WS_pass, WS_never, WE_call, WE_callO, WE_opP, WE_n, WE_nl, WE_nnil, WE_ncons, WE_nd0, WE_pl, plK_d, plK_ol, plK_od, WS_for, WS_nx, WS_rt, WS_ex, WF_ok, WF_ex, WS_bindS, id, List.getElem?_cons_zero, List.getElem?_cons_succ, List.set_cons_zero, List.set_cons_succ, look, if_true, if_false, Bool.false_eq_true, Bool.not_true, Bool.not_false, List.map_cons, List.map_nil, List.replicate_succ, List.replicate_zero, List.cons_append, List.nil_append, decide_true, decide_false]
  have eb : ∀ (i1 i2 : Decidable (w = w0)), ((@decide _ i1) != (@decide _ i2)) = false := fun i1 i2 => by rw [Subsingleton.elim i1 i2, bne_self_eq_false]
  try simp only [WE_neB, eqT_put hg.nd e0, Bool.false_bne, eb, WE_ok, WE_ex, WE_bind, WE_C, WE_var, WE_h, WE_i, WE_nil, WE_cons, WE_lst, WE_tup, WE_op, opK_some, WE_un, WE_unN, unK_some, WE_b, bK_bl, WE_not, WE_and, WE_or, WE_ite, WE_andV, WE_orV, WE_notV, WS_seq, WS_set, WS_setN, WS_ret, WS_retN, WS_drop, WS_ifS, WS_pass, WS_never, WE_call, WE_callO, WE_opP, WE_n, WE_nl, WE_nnil, WE_ncons, WE_nd0, WE_pl, plK_d, plK_ol, plK_od, WS_for, WS_nx, WS_rt, WS_ex, WF_ok, WF_ex, WS_bindS, id, List.getElem?_cons_zero, List.getElem?_cons_succ, List.set_cons_zero, List.set_cons_succ, look, if_true, if_false, Bool.false_eq_true, Bool.not_true, Bool.not_false, List.map_cons, List.map_nil, List.replicate_succ, List.replicate_zero, List.cons_append, List.nil_append, decide_true, decide_false]
  have hgd := drop_good hg x
  have hld := drop_len hx
  try simp only [WE_makeK, fm1, WE_ok, WE_ex, WE_bind, WE_C, WE_var, WE_h, WE_i, WE_nil, WE_cons, WE_lst, WE_tup, WE_op, opK_some, WE_un, WE_unN, unK_some, WE_b, bK_bl, WE_not, WE_and, WE_or, WE_ite, WE_andV, WE_orV, WE_notV, WS_seq, WS_set, WS_setN, WS_ret, WS_retN, WS_drop, WS_ifS, WS_pass, WS_never, WE_call, WE_callO, WE_opP, WE_n, WE_nl, WE_nnil, WE_ncons, WE_nd0, WE_pl, plK_d, plK_ol, plK_od, WS_for, WS_nx, WS_rt, WS_ex, WF_ok, WF_ex, WS_bindS, id, List.getElem?_cons_zero, List.getElem?_cons_succ, List.set_cons_zero, List.set_cons_succ, look, if_true, if_false, Bool.false_eq_true, Bool.not_true, Bool.not_false, List.map_cons, List.map_nil, List.replicate_succ, List.replicate_zero, List.cons_append, List.nil_append, decide_true, decide_false]
  refine ⟨by simp, WI_make1 S (.inl rfl) hgd fun r2 => ?_⟩
  show WE _ _ (hEqO true ok tys GE (mis CM r2 (d.filter fun q => !decide (q.1 = x))) (mis CM r d) _)
  try simp only [WE_eqO S, eqT_len (t := d.filter fun q => !decide (q.1 = x)) (u := d) (by omega), Bool.bne_false, WE_makeK, fm1, WE_ok, WE_ex, WE_bind, WE_C, WE_var, WE_h, WE_i, WE_nil, WE_cons, WE_lst, WE_tup, WE_op, opK_some, WE_un, WE_unN, unK_some, WE_b, bK_bl, WE_not, WE_and, WE_or, WE_ite, WE_andV, WE_orV, WE_notV, WS_seq, WS_set, WS_setN, WS_ret, WS_retN, WS_drop, WS_ifS, WS_pass, WS_never, WE_call, WE_callO, WE_opP, WE_n, WE_nl, WE_nnil, WE_ncons, WE_nd0, WE_pl, plK_d, plK_ol, plK_od, WS_for, WS_nx, WS_rt, WS_ex, WF_ok, WF_ex, WS_bindS, id, List.getElem?_cons_zero, List.getElem?_cons_succ, List.set_cons_zero, List.set_cons_succ, look, if_true, if_false, Bool.false_eq_true, Bool.not_true, Bool.not_false, List.map_cons, List.map_nil, List.replicate_succ, List.replicate_zero, List.cons_append, List.nil_append, decide_true, decide_false]
  refine ⟨by simp, WI_make1 S (.inl rfl) hgd fun r3 => ?_⟩
  show WE _ _ (hEqO false ok tys GE (mis CM r d) (mis CM r3 (d.filter fun q => !decide (q.1 = x))) _)
  try simp only [WE_eqO S, eqT_len (t := d) (u := d.filter fun q => !decide (q.1 = x)) (by omega), Bool.bne_false, WE_ok, WE_ex, WE_bind, WE_C, WE_var, WE_h, WE_i, WE_nil, WE_cons, WE_lst, WE_tup, WE_op, opK_some, WE_un, WE_unN, unK_some, WE_b, bK_bl, WE_not, WE_and, WE_or, WE_ite, WE_andV, WE_orV, WE_notV, WS_seq, WS_set, WS_setN, WS_ret, WS_retN, WS_drop, WS_ifS, WS_pass, WS_never, WE_call, WE_callO, WE_opP, WE_n, WE_nl, WE_nnil, WE_ncons, WE_nd0, WE_pl, plK_d, plK_ol, plK_od, WS_for, WS_nx, WS_rt, WS_ex, WF_ok, WF_ex, WS_bindS, id, List.getElem?_cons_zero, List.getElem?_cons_succ, List.set_cons_zero, List.set_cons_succ, look, if_true, if_false, Bool.false_eq_true, Bool.not_true, Bool.not_false, List.map_cons, List.map_nil, List.replicate_succ, List.replicate_zero, List.cons_append, List.nil_append, decide_true, decide_false]
  try simp only [WE_eqOth S (n := true) (r := r) (d := d) (y := .int 0) (.inl True.intro) rfl S.tI, WE_ok, WE_ex, WE_bind, WE_C, WE_var, WE_h, WE_i, WE_nil, WE_cons, WE_lst, WE_tup, WE_op, opK_some, WE_un, WE_unN, unK_some, WE_b, bK_bl, WE_not, WE_and, WE_or, WE_ite, WE_andV, WE_orV, WE_notV, WS_seq, WS_set, WS_setN, WS_ret, WS_retN, WS_drop, WS_ifS, WS_pass, WS_never, WE_call, WE_callO, WE_opP, WE_n, WE_nl, WE_nnil, WE_ncons, WE_nd0, WE_pl, plK_d, plK_ol, plK_od, WS_for, WS_nx, WS_rt, WS_ex, WF_ok, WF_ex, WS_bindS, id, List.getElem?_cons_zero, List.getElem?_cons_succ, List.set_cons_zero, List.set_cons_succ, look, if_true, if_false, Bool.false_eq_true, Bool.not_true, Bool.not_false, List.map_cons, List.map_nil, List.replicate_succ, List.replicate_zero, List.cons_append, List.nil_append, decide_true, decide_false]
  exact hR _ hb2
end
end BD
namespace BD
open PySem PySem.Spec PyProof.Rows L2
section
variable {E : EX} {Q : Dat → DSt → Prop} {s : DSt}
open Classical in
theorem WE_neC {n m : Nat} {a b : Dat} (ha : cln n a = true) (hb : cln m b = true) (h1 : a = b → Q (.bl false) s) (h2 : a ≠ b → Q (.bl true) s) (hn : n ≤ 64 := by decide) (hm : m ≤ 64 := by decide) : WE Q E (hNe a b s) := by
  refine WE_ne ha hb ?_ hn hm
  by_cases h : a = b
  · rw [decide_eq_true h]; exact h1 h
  · rw [decide_eq_false h]; exact h2 h
end
theorem nbV_d {x : Dat} : nbV (.d x) = nbD x := rfl
theorem nbV_no : nbV .no = true := rfl
structure LpS (env : List DV) (J : Pen → Prop) (s : DSt) : Prop where
  eq : s.env = env
  j : J s.pen
structure LpT (env : List DV) (e : DSt → Out Dat) (J : List Dat → Pen → Prop) (acc : List Dat) (c : Bool) (s2 : DSt) : Prop where
  eq : s2.env = env
  no : c = false → J acc s2.pen
  yes : c = true → WE (fun y s3 => LpS env (J (acc ++ [y])) s3) X0 (e s2)
structure LpK {τ : Type} (v : Nat) (t : DSt → Out Bool) (e : DSt → Out Dat) (l : List τ) (enc : τ → Dat) (I : List τ → List Dat → Pen → Prop) (Q : List Dat → DSt → Prop) (items : List Dat) (s1 : DSt) : Prop where
  it : items = l.map enc
  sz : l.length ≤ sizeLine
  pl : plainAt [v] s1.env = true
  start : I l [] s1.pen
  step : ∀ x rest acc p, x ∈ l → I (x :: rest) acc p → WE (fun c s2 => LpT (s1.env.set v (.d (enc x))) e (I rest) acc c s2) X0 (t ⟨s1.env.set v (.d (enc x)), p⟩)
  fin : ∀ acc p, I [] acc p → Q acc ⟨s1.env, p⟩
theorem WE_get {α : Type} {Q : α → DSt → Prop} {o : Out α} (h : WE Q X0 o) : ∃ a s, o = .ok a s ∧ Q a s := by
  cases o with
  | ok a s => exact ⟨a, s, rfl, h⟩
  | ex => exact h.elim
  | no => exact h.elim
theorem lcl_pen {τ : Type} {v : Nat} {t : DSt → Out Bool} {e : DSt → Out Dat} {env : List DV} {enc : τ → Dat} (I : List τ → List Dat → Pen → Prop) : ∀ (l : List τ) (acc : List Dat) (p : Pen), acc.length + l.length ≤ sizeLine → I l acc p →
    (∀ x rest acc p, x ∈ l → I (x :: rest) acc p → WE (fun c s2 => LpT (env.set v (.d (enc x))) e (I rest) acc c s2) X0 (t ⟨env.set v (.d (enc x)), p⟩)) →
    ∃ acc' p', gLcL [v] (hName v) t e (l.map enc) acc ⟨wipeE [v] env, p⟩ = .ok acc' ⟨wipeE [v] env, p'⟩ ∧ I [] acc' p'
  | [], acc, p, _, h, _ => ⟨acc, p, rfl, h⟩
  | x :: l, acc, p, hl, h, st => by
    rw [List.length_cons] at hl
    obtain ⟨c, ⟨env2, p2⟩, e1, hc⟩ := WE_get (st x l acc p (List.mem_cons_self ..) h)
    obtain ⟨rfl, hn, hy⟩ := hc
    rw [List.map_cons, gLcL]
    simp only [hName, wipe_set2, e1]
    cases c with
    | true =>
      obtain ⟨y, ⟨env3, p3⟩, e2, h2⟩ := WE_get (hy rfl)
      obtain ⟨rfl, h3⟩ := h2
      simp only [e2, plain_set, wipe_set]
      rw [if_pos ⟨by omega, trivial⟩]
      exact lcl_pen I l _ _ (by rw [List.length_append]; simp; omega) h3 fun y rest acc p hy => st y rest acc p (List.mem_cons_of_mem _ hy)
    | false =>
      simp only [plain_set, wipe_set, if_true]
      exact lcl_pen I l _ _ (by omega) (hn rfl) fun y rest acc p hy => st y rest acc p (List.mem_cons_of_mem _ hy)
theorem WE_lcpA {τ : Type} {E : EX} {s : DSt} {v : Nat} {gi : DSt → Out (List Dat)} {t : DSt → Out Bool} {e : DSt → Out Dat} {Q : List Dat → DSt → Prop} (l : List τ) (enc : τ → Dat) (I : List τ → List Dat → Pen → Prop)
    (h : WE (LpK v t e l enc I Q) E (gi s)) : WE Q E (gLcA [v] gi (hName v) t e s) := by
  unfold gLcA
  rw [WE_bind]
  refine WE_imp (fun items s1 k => ?_) h
  obtain ⟨rfl, h1, h2, h3, h4, h5⟩ := k
  obtain ⟨env, p⟩ := s1
  obtain ⟨acc, p', e1, h6⟩ := lcl_pen I l [] p (by simpa using h1) h3 h4
  refine WE_mk (o' := .ok acc ⟨env, p'⟩) ?_ (h5 acc p' h6)
  show (if plainAt [v] env = true then _ else _) = _
  rw [if_pos h2]
  simp only [e1, back_wipe]
theorem WE_lcp {τ : Type} {E : EX} {s : DSt} {v : Nat} {gi : DSt → Out (List Dat)} {t : DSt → Out Bool} {e : DSt → Out Dat} {Q : Dat → DSt → Prop} (l : List τ) (enc : τ → Dat) (I : List τ → List Dat → Pen → Prop)
    (h : WE (LpK v t e l enc I (fun xs s1 => Q (.lst xs) s1)) E (gi s)) : WE Q E (gLc [v] gi (hName v) t e s) := by
  unfold gLc
  rw [WE_bind]
  exact WE_lcpA l enc I h
inductive LpQ (v : Nat) (t : DSt → Out Bool) (e : DSt → Out Dat) (Q : List Dat → DSt → Prop) (items : List Dat) (s1 : DSt) : Prop
  | mk {τ : Type} (l : List τ) (enc : τ → Dat) (I : List τ → List Dat → Pen → Prop) (k : LpK v t e l enc I Q items s1) : LpQ v t e Q items s1
/-- .. of things that are known when they are there -/
theorem WE_lcq {E : EX} {s : DSt} {v : Nat} {gi : DSt → Out (List Dat)} {t : DSt → Out Bool} {e : DSt → Out Dat} {Q : Dat → DSt → Prop}
    (h : WE (LpQ v t e (fun xs s1 => Q (.lst xs) s1)) E (gi s)) : WE Q E (gLc [v] gi (hName v) t e s) := by
  cases q : gi s with
  | ok items s1 =>
    rw [q] at h
    obtain ⟨l, enc, I, k⟩ := h
    exact WE_lcp l enc I (by rw [q]; exact k)
  | ex C fs p =>
    rw [q] at h
    refine WE_mk (o' := .ex C fs p) ?_ h
    unfold gLc gLcA
    rw [q]
    rfl
  | no => rw [q] at h; exact h.elim
structure LendK (i : Nat) (ks : List (Key × Dat)) (Q : Dat → DSt → Prop) (d : Dat) (s2 : DSt) : Prop where
  nd : nbD d = true
  nv : (s2.env.set i .no).all nbV = true
  nk : nbKs ks = true
  o : (s2.env.getD i (.od [])).isO = false
  q : Q d ⟨s2.env.set i (.od ks), s2.pen⟩
theorem WE_lend {E : EX} {s : DSt} {i : Nat} {g : DSt → Out Dat} {Q : Dat → DSt → Prop} : WE Q E (gLend i g s) = (match s.env[i]? with
  | some (.od ks) => WE (LendK i ks Q) X0 (g ⟨s.env.set i (.d (.bor ks)), s.pen⟩)
  | _ => False) := by
  unfold gLend
  cases s.env[i]? with
  | none => rfl
  | some w =>
    cases w with
    | od ks =>
      dsimp only
      cases g ⟨s.env.set i (.d (.bor ks)), s.pen⟩ with
      | ok d s2 =>
        show WE Q E (if _ then _ else _) = _
        rw [WE_ifno]
        exact propext ⟨fun h => ⟨h.1.1, h.1.2.1, h.1.2.2.1, h.1.2.2.2, h.2⟩, fun h => ⟨⟨h.nd, h.nv, h.nk, h.o⟩, h.q⟩⟩
      | ex => rfl
      | no => rfl
    | _ => rfl
theorem WE_callK {E : EX} {s : DSt} {n m : Nat} {gD : List Dat → List Dat → List Dat} {G : FD} {ga gk : DSt → Out (List Dat)} {Q : Dat → DSt → Prop} : WE Q E (gCallK n m gD G ga gk s) = WE (fun ds s1 => WE (fun es s2 => (ds.length = n ∧ es.length = m) ∧ WF (fun d q => Q d ⟨s2.env, q⟩) E (G (gD ds es) s2.pen)) E (gk s1)) E (ga s) := by
  unfold gCallK
  rw [WE_bind]
  congr
  funext ds s1
  rw [WE_bind]
  congr
  funext es s2
  rw [WE_ifno]
  congr
  cases G (gD ds es) s2.pen <;> rfl
theorem WE_ndisp {E : EX} {s : DSt} {gs : List GG} {Q : DV → DSt → Prop} : WE Q E (gNdisp gs s) = (gs.length ≤ 15 ∧ WE (fun ps s1 => Q (.od (mergeD [] ps)) s1) E (gPairs gs s)) := by
  unfold gNdisp
  rw [WE_ifno, WE_bind]
  rfl
theorem WE_pairs0 {E : EX} {s : DSt} {Q : List (Key × Dat) → DSt → Prop} : WE Q E (gPairs [] s) = Q [] s := rfl
theorem WE_pairs1 {E : EX} {s : DSt} {g h : DSt → Out Dat} {gs : List GG} {Q : List (Key × Dat) → DSt → Prop} : WE Q E (gPairs ((g, h) :: gs) s) = WE (fun kd s1 => WE (fun vd s2 => match keyD kd with | some k => WE (fun ps s3 => Q ((k, vd) :: ps) s3) E (gPairs gs s2) | none => False) E (h s1)) E (g s) := by
  rw [gPairs, WE_bind]
  congr
  funext kd s1
  rw [WE_bind]
  congr
  funext vd s2
  cases keyD kd with
  | none => rfl
  | some k =>
    show WE Q E ((gPairs gs s2).bind _) = _
    rw [WE_bind]
    rfl
theorem nb_dK (t : List (Str × Str)) : nbKs (dK t) = true := by
  induction t with
  | nil => rfl
  | cons q t ih =>
    show (nbP (.inr q.1, .str q.2) && nbKs (dK t)) = true
    rw [ih]
    rfl
theorem nb_strs (l : List Str) : nbDs (l.map .str) = true := by
  induction l with
  | nil => rfl
  | cons x l ih =>
    show (nbD (.str x) && nbDs (l.map .str)) = true
    rw [ih]
    rfl
end BD
namespace BD
open PySem PySem.Spec PyProof.Rows L2
section
variable {cs subs others : List Addr} {ok : Addr → Bool} {CM : Addr} {tys : List Value} {GM : FI} {GS GE : FD}
theorem mer_keys {l : List Str} {u t : List (Str × Str)} (hu : ∀ x ∈ keys u, x ∈ l) (ht : ∀ x ∈ keys t, x ∈ l) : ∀ x ∈ keys (merT u t), x ∈ l := fun x hx => (mem_keys_mer.mp hx).elim (hu x) (ht x)
theorem due_keys {l : List Str} {t : List (Str × Str)} {z : Str} (hz : ∀ x ∈ chars z, x ∈ l) (ht : ∀ x ∈ keys t, x ∈ l) : ∀ x ∈ keys (Due t z), x ∈ l := by
  refine mer_keys (mer_keys (fun x hx => nomatch hx) fun x hx => ?_) ht
  rw [keys_same] at hx
  exact hz x hx
theorem due_len {l : List Str} {t : List (Str × Str)} {z : Str} (hz : ∀ x ∈ chars z, x ∈ l) (ht : ∀ x ∈ keys t, x ∈ l) : (Due t z).length ≤ l.length := by
  have := nodup_le (mer_nodup (mer_nodup (by simp [keys])) : (keys (Due t z)).Nodup) (due_keys hz ht)
  rwa [keys_len] at this
theorem nb_mis {r : List Str} {d : List (Str × Str)} : nbD (mis CM r d) = true := by
  show nbFs (flds r d) = true
  simp only [flds, nbFs, nbF, nbD, nb_dK, nb_strs, Bool.and_self]
/-- one turn of the law: what is drawn and asked -/
theorem turn_ok (S : Sem ok CM tys GM GS GE (FDof 2 0 (g_m_has cs subs others CM ok)) (FDof 2 0 (g_m_get cs subs others CM ok)) (FDof 1 0 (g_m_len cs subs others CM ok)) (FDof 1 1 (g_m_str cs subs others CM ok))) {R : Dat → Pen → Prop} {n : Nat} {a2 a3 a4 a5 a6 a7 a8 : DV} {p : Pen} (hb : Bg (n + 200) p) (h2' : nbV a2 = true) (h8 : nbV a8 = true) {N : DSt → Prop}
    (hN : ∀ a3 a4 a5 a6 a7 a8 p, nbV a8 = true → Bg n p → N ⟨[.no, .d .pen, a2, a3, a4, a5, a6, a7, a8, .no, .no], p⟩) :
    WS N R X0 ((gSeq (gSet 3 (gCall (F__law_some_letters ok CM tys GM GS GE (FDof 2 0 (g_m_has cs subs others CM ok)) (FDof 2 0 (g_m_get cs subs others CM ok)) (FDof 1 0 (g_m_len cs subs others CM ok)) (FDof 1 1 (g_m_str cs subs others CM ok))) (gCons (gVar 1) (gCons (gCall (drawF dc) (gCons (gVar 1) (gCons (gC (.int 13)) gNil))) gNil))))
 (gSeq (gSet 4 (gIf (gB (gOp hNe (gH 3) (gI (gLst gNil)))) (gCall (F__law_table ok CM tys GM GS GE (FDof 2 0 (g_m_has cs subs others CM ok)) (FDof 2 0 (g_m_get cs subs others CM ok)) (FDof 1 0 (g_m_len cs subs others CM ok)) (FDof 1 1 (g_m_str cs subs others CM ok))) (gCons (gVar 1) (gCons (gVar 3) gNil))) (gPl gNd0)))
 (gSeq (gSet 5 (fun s => ((gC (.str "")) s).bind fun a s1 => match a with | .str z => gUn (hJoin (.str z)) (gI (gLc [10] (gIr (gCons (gCall (drawF dc) (gCons (gVar 1) (gCons (gC (.int 6)) gNil))) gNil)) (hName 10) (gB (gOp hNe (gH 3) (gI (gLst gNil)))) (gCall (F__law_pick ok CM tys GM GS GE (FDof 2 0 (g_m_has cs subs others CM ok)) (FDof 2 0 (g_m_get cs subs others CM ok)) (FDof 1 0 (g_m_len cs subs others CM ok)) (FDof 1 1 (g_m_str cs subs others CM ok))) (gCons (gVar 1) (gCons (gVar 3) gNil))))) s1 | _ => .no))
 (gSeq (gPar 6 7 (gNcons (gN (gCall (F__law_due ok CM tys GM GS GE (FDof 2 0 (g_m_has cs subs others CM ok)) (FDof 2 0 (g_m_get cs subs others CM ok)) (FDof 1 0 (g_m_len cs subs others CM ok)) (FDof 1 1 (g_m_str cs subs others CM ok))) (gCons (gVar 4) (gCons (gVar 5) gNil)))) (gNcons (gUnN hNdict (gH 4)) gNnil)))
 (gSeq (gSet 8 (gLend 7 (gMakeK CM 2 0 fm2 GM (gCons (gVar 7) (gCons (gVar 5) gNil)) gNil)))
 (gSeq (gDPut 7 (gC (.str "q")) (gC (.str "later")))
 (gSeq (gIfS (gOr (gNot (gB (gCall (F__law_right ok CM tys GM GS GE (FDof 2 0 (g_m_has cs subs others CM ok)) (FDof 2 0 (g_m_get cs subs others CM ok)) (FDof 1 0 (g_m_len cs subs others CM ok)) (FDof 1 1 (g_m_str cs subs others CM ok))) (gCons (gVar 8) (gCons (gVar 6) gNil))))) (gNot (gB (gCall (F__law_other_right ok CM tys GM GS GE (FDof 2 0 (g_m_has cs subs others CM ok)) (FDof 2 0 (g_m_get cs subs others CM ok)) (FDof 1 0 (g_m_len cs subs others CM ok)) (FDof 1 1 (g_m_str cs subs others CM ok))) (gCons (gVar 1) (gCons (gVar 8) (gCons (gVar 6) gNil)))))))
 (gRet (gC (.bl false)))
 gPass)
 (gIfS (gB (gOpP (hEqO true ok tys GE) (gVar 8) (gMakeK CM 0 2 fm0ki GM gNil (gCons (gVar 5) (gCons (gVar 4) gNil)))))
 (gRet (gC (.bl false)))
 gPass)))))))) ⟨[.no, .d .pen, a2, a3, a4, a5, a6, a7, a8, .no, .no], p⟩) := by
  try simp only [WE_ok, WE_ex, WE_bind, WE_C, WE_var, WE_h, WE_i, WE_nil, WE_cons, WE_lst, WE_tup, WE_op, opK_some, WE_un, WE_unN, unK_some, WE_b, bK_bl, WE_not, WE_and, WE_or, WE_ite, WE_andV, WE_orV, WE_notV, WS_seq, WS_set, WS_setN, WS_ret, WS_retN, WS_drop, WS_ifS, WS_pass, WS_never, WE_call, WE_callO, WE_opP, WE_n, WE_nl, WE_nnil, WE_ncons, WE_nd0, WE_pl, plK_d, plK_ol, plK_od, WS_for, WS_nx, WS_rt, WS_ex, WF_ok, WF_ex, WS_bindS, id, List.getElem?_cons_zero, List.getElem?_cons_succ, List.set_cons_zero, List.set_cons_succ, look, if_true, if_false, Bool.false_eq_true, Bool.not_true, Bool.not_false, List.map_cons, List.map_nil, List.replicate_succ, List.replicate_zero, List.cons_append, List.nil_append, decide_true, decide_false, WE_par, pK_two, WE_makeK, WE_dpop, WS_dput, WE_lend, WE_callK, WE_ndisp, WE_pairs0, WE_pairs1, WE_ir, WE_join, isOd, isOl, dput, dpop, keyD]
  refine WF_draw (n := n + 199) (by decide) (by decide) hb fun k p1 hk hb1 => ?_
  try simp only [WE_ok, WE_ex, WE_bind, WE_C, WE_var, WE_h, WE_i, WE_nil, WE_cons, WE_lst, WE_tup, WE_op, opK_some, WE_un, WE_unN, unK_some, WE_b, bK_bl, WE_not, WE_and, WE_or, WE_ite, WE_andV, WE_orV, WE_notV, WS_seq, WS_set, WS_setN, WS_ret, WS_retN, WS_drop, WS_ifS, WS_pass, WS_never, WE_call, WE_callO, WE_opP, WE_n, WE_nl, WE_nnil, WE_ncons, WE_nd0, WE_pl, plK_d, plK_ol, plK_od, WS_for, WS_nx, WS_rt, WS_ex, WF_ok, WF_ex, WS_bindS, id, List.getElem?_cons_zero, List.getElem?_cons_succ, List.set_cons_zero, List.set_cons_succ, look, if_true, if_false, Bool.false_eq_true, Bool.not_true, Bool.not_false, List.map_cons, List.map_nil, List.replicate_succ, List.replicate_zero, List.cons_append, List.nil_append, decide_true, decide_false, WE_par, pK_two, WE_makeK, WE_dpop, WS_dput, WE_lend, WE_callK, WE_ndisp, WE_pairs0, WE_pairs1, WE_ir, WE_join, isOd, isOl, dput, dpop, keyD]
  obtain ⟨l, p2, e2, hl, hnd, hlt, hb2⟩ := some_ok (ok := ok) (CM := CM) (tys := tys) (GM := GM) (GS := GS) (GE := GE) (GH := (FDof 2 0 (g_m_has cs subs others CM ok))) (GG_ := (FDof 2 0 (g_m_get cs subs others CM ok))) (GL := (FDof 1 0 (g_m_len cs subs others CM ok))) (GT := (FDof 1 1 (g_m_str cs subs others CM ok))) (m := k) (n := n + 180) (p := p1) (by omega) (hb1.mono (by omega))
  refine WF_eq e2 ?_
  have hcl : cln 1 (.lst (l.map .str)) = true := cln_lst (clns_str (strs_ok hlt))
  try simp only [WE_ok, WE_ex, WE_bind, WE_C, WE_var, WE_h, WE_i, WE_nil, WE_cons, WE_lst, WE_tup, WE_op, opK_some, WE_un, WE_unN, unK_some, WE_b, bK_bl, WE_not, WE_and, WE_or, WE_ite, WE_andV, WE_orV, WE_notV, WS_seq, WS_set, WS_setN, WS_ret, WS_retN, WS_drop, WS_ifS, WS_pass, WS_never, WE_call, WE_callO, WE_opP, WE_n, WE_nl, WE_nnil, WE_ncons, WE_nd0, WE_pl, plK_d, plK_ol, plK_od, WS_for, WS_nx, WS_rt, WS_ex, WF_ok, WF_ex, WS_bindS, id, List.getElem?_cons_zero, List.getElem?_cons_succ, List.set_cons_zero, List.set_cons_succ, look, if_true, if_false, Bool.false_eq_true, Bool.not_true, Bool.not_false, List.map_cons, List.map_nil, List.replicate_succ, List.replicate_zero, List.cons_append, List.nil_append, decide_true, decide_false, WE_par, pK_two, WE_makeK, WE_dpop, WS_dput, WE_lend, WE_callK, WE_ndisp, WE_pairs0, WE_pairs1, WE_ir, WE_join, isOd, isOl, dput, dpop, keyD]
  refine ⟨Nat.zero_le _, ?_⟩
  -- the table
  have key : ∀ (t : List (Str × Str)) (p3 : Pen), Good t → (∀ x ∈ keys t, x ∈ l) → Bg (n + 60) p3 → WS N R X0 ((gSeq (gSet 5 (fun s => ((gC (.str "")) s).bind fun a s1 => match a with | .str z => gUn (hJoin (.str z)) (gI (gLc [10] (gIr (gCons (gCall (drawF dc) (gCons (gVar 1) (gCons (gC (.int 6)) gNil))) gNil)) (hName 10) (gB (gOp hNe (gH 3) (gI (gLst gNil)))) (gCall (F__law_pick ok CM tys GM GS GE (FDof 2 0 (g_m_has cs subs others CM ok)) (FDof 2 0 (g_m_get cs subs others CM ok)) (FDof 1 0 (g_m_len cs subs others CM ok)) (FDof 1 1 (g_m_str cs subs others CM ok))) (gCons (gVar 1) (gCons (gVar 3) gNil))))) s1 | _ => .no))
 (gSeq (gPar 6 7 (gNcons (gN (gCall (F__law_due ok CM tys GM GS GE (FDof 2 0 (g_m_has cs subs others CM ok)) (FDof 2 0 (g_m_get cs subs others CM ok)) (FDof 1 0 (g_m_len cs subs others CM ok)) (FDof 1 1 (g_m_str cs subs others CM ok))) (gCons (gVar 4) (gCons (gVar 5) gNil)))) (gNcons (gUnN hNdict (gH 4)) gNnil)))
 (gSeq (gSet 8 (gLend 7 (gMakeK CM 2 0 fm2 GM (gCons (gVar 7) (gCons (gVar 5) gNil)) gNil)))
 (gSeq (gDPut 7 (gC (.str "q")) (gC (.str "later")))
 (gSeq (gIfS (gOr (gNot (gB (gCall (F__law_right ok CM tys GM GS GE (FDof 2 0 (g_m_has cs subs others CM ok)) (FDof 2 0 (g_m_get cs subs others CM ok)) (FDof 1 0 (g_m_len cs subs others CM ok)) (FDof 1 1 (g_m_str cs subs others CM ok))) (gCons (gVar 8) (gCons (gVar 6) gNil))))) (gNot (gB (gCall (F__law_other_right ok CM tys GM GS GE (FDof 2 0 (g_m_has cs subs others CM ok)) (FDof 2 0 (g_m_get cs subs others CM ok)) (FDof 1 0 (g_m_len cs subs others CM ok)) (FDof 1 1 (g_m_str cs subs others CM ok))) (gCons (gVar 1) (gCons (gVar 8) (gCons (gVar 6) gNil)))))))
 (gRet (gC (.bl false)))
 gPass)
 (gIfS (gB (gOpP (hEqO true ok tys GE) (gVar 8) (gMakeK CM 0 2 fm0ki GM gNil (gCons (gVar 5) (gCons (gVar 4) gNil)))))
 (gRet (gC (.bl false)))
 gPass)))))) ⟨[.no, .d .pen, a2, .d (.lst (l.map .str)), .d (.dic (dK t)), a5, a6, a7, a8, .no, .no], p3⟩) := by
    intro t p3 hg hk hb3
    try simp only [WE_ok, WE_ex, WE_bind, WE_C, WE_var, WE_h, WE_i, WE_nil, WE_cons, WE_lst, WE_tup, WE_op, opK_some, WE_un, WE_unN, unK_some, WE_b, bK_bl, WE_not, WE_and, WE_or, WE_ite, WE_andV, WE_orV, WE_notV, WS_seq, WS_set, WS_setN, WS_ret, WS_retN, WS_drop, WS_ifS, WS_pass, WS_never, WE_call, WE_callO, WE_opP, WE_n, WE_nl, WE_nnil, WE_ncons, WE_nd0, WE_pl, plK_d, plK_ol, plK_od, WS_for, WS_nx, WS_rt, WS_ex, WF_ok, WF_ex, WS_bindS, id, List.getElem?_cons_zero, List.getElem?_cons_succ, List.set_cons_zero, List.set_cons_succ, look, if_true, if_false, Bool.false_eq_true, Bool.not_true, Bool.not_false, List.map_cons, List.map_nil, List.replicate_succ, List.replicate_zero, List.cons_append, List.nil_append, decide_true, decide_false, WE_par, pK_two, WE_makeK, WE_dpop, WS_dput, WE_lend, WE_callK, WE_ndisp, WE_pairs0, WE_pairs1, WE_ir, WE_join, isOd, isOl, dput, dpop, keyD]
    refine WE_lcq ?_
    try simp only [WE_ir, WE_ok, WE_ex, WE_bind, WE_C, WE_var, WE_h, WE_i, WE_nil, WE_cons, WE_lst, WE_tup, WE_op, opK_some, WE_un, WE_unN, unK_some, WE_b, bK_bl, WE_not, WE_and, WE_or, WE_ite, WE_andV, WE_orV, WE_notV, WS_seq, WS_set, WS_setN, WS_ret, WS_retN, WS_drop, WS_ifS, WS_pass, WS_never, WE_call, WE_callO, WE_opP, WE_n, WE_nl, WE_nnil, WE_ncons, WE_nd0, WE_pl, plK_d, plK_ol, plK_od, WS_for, WS_nx, WS_rt, WS_ex, WF_ok, WF_ex, WS_bindS, id, List.getElem?_cons_zero, List.getElem?_cons_succ, List.set_cons_zero, List.set_cons_succ, look, if_true, if_false, Bool.false_eq_true, Bool.not_true, Bool.not_false, List.map_cons, List.map_nil, List.replicate_succ, List.replicate_zero, List.cons_append, List.nil_append, decide_true, decide_false, WE_par, pK_two, WE_makeK, WE_dpop, WS_dput, WE_lend, WE_callK, WE_ndisp, WE_pairs0, WE_pairs1, WE_ir, WE_join, isOd, isOl, dput, dpop, keyD]
    refine WF_draw (n := n + 59) (by decide) (by decide) (hb3.mono (by omega)) fun j p4 hj hb4 => ?_
    try simp only [WE_ok, WE_ex, WE_bind, WE_C, WE_var, WE_h, WE_i, WE_nil, WE_cons, WE_lst, WE_tup, WE_op, opK_some, WE_un, WE_unN, unK_some, WE_b, bK_bl, WE_not, WE_and, WE_or, WE_ite, WE_andV, WE_orV, WE_notV, WS_seq, WS_set, WS_setN, WS_ret, WS_retN, WS_drop, WS_ifS, WS_pass, WS_never, WE_call, WE_callO, WE_opP, WE_n, WE_nl, WE_nnil, WE_ncons, WE_nd0, WE_pl, plK_d, plK_ol, plK_od, WS_for, WS_nx, WS_rt, WS_ex, WF_ok, WF_ex, WS_bindS, id, List.getElem?_cons_zero, List.getElem?_cons_succ, List.set_cons_zero, List.set_cons_succ, look, if_true, if_false, Bool.false_eq_true, Bool.not_true, Bool.not_false, List.map_cons, List.map_nil, List.replicate_succ, List.replicate_zero, List.cons_append, List.nil_append, decide_true, decide_false, WE_par, pK_two, WE_makeK, WE_dpop, WS_dput, WE_lend, WE_callK, WE_ndisp, WE_pairs0, WE_pairs1, WE_ir, WE_join, isOd, isOl, dput, dpop, keyD]
    refine ⟨by omega, .mk (List.range j) (fun i => .int ((i : Nat) : Int)) (fun rest acc p => ∃ m : List Str, acc = m.map .str ∧ m.length + rest.length ≤ j ∧ (∀ x ∈ m, x ∈ l) ∧ Bg (n + 50 + rest.length) p) ⟨by simp [rangeD], by rw [List.length_range]; exact sz12 (by omega), rfl, ⟨[], rfl, by simp, (fun x hx => nomatch hx), hb4.mono (by simp; omega)⟩, fun x rest acc p hx hI => ?_, fun acc p hI => ?_⟩⟩
    · obtain ⟨m, rfl, h1, h2, h3⟩ := hI
      try simp only [WE_ok, WE_ex, WE_bind, WE_C, WE_var, WE_h, WE_i, WE_nil, WE_cons, WE_lst, WE_tup, WE_op, opK_some, WE_un, WE_unN, unK_some, WE_b, bK_bl, WE_not, WE_and, WE_or, WE_ite, WE_andV, WE_orV, WE_notV, WS_seq, WS_set, WS_setN, WS_ret, WS_retN, WS_drop, WS_ifS, WS_pass, WS_never, WE_call, WE_callO, WE_opP, WE_n, WE_nl, WE_nnil, WE_ncons, WE_nd0, WE_pl, plK_d, plK_ol, plK_od, WS_for, WS_nx, WS_rt, WS_ex, WF_ok, WF_ex, WS_bindS, id, List.getElem?_cons_zero, List.getElem?_cons_succ, List.set_cons_zero, List.set_cons_succ, look, if_true, if_false, Bool.false_eq_true, Bool.not_true, Bool.not_false, List.map_cons, List.map_nil, List.replicate_succ, List.replicate_zero, List.cons_append, List.nil_append, decide_true, decide_false, WE_par, pK_two, WE_makeK, WE_dpop, WS_dput, WE_lend, WE_callK, WE_ndisp, WE_pairs0, WE_pairs1, WE_ir, WE_join, isOd, isOl, dput, dpop, keyD]
      rw [List.length_cons] at h1 h3
      refine ⟨Nat.zero_le _, WE_neC (n := 1) (m := 1) hcl rfl (fun _ => ⟨rfl, fun _ => ⟨m, rfl, by omega, h2, h3.mono (by omega)⟩, fun z => nomatch z⟩) fun hc => ⟨rfl, (fun z => nomatch z), fun _ => ?_⟩⟩
      have hne : l ≠ [] := fun e => by
        rw [e] at hc
        exact hc rfl
      have hpos : 0 < l.length := List.length_pos_iff.mpr hne
      try simp only [WE_ok, WE_ex, WE_bind, WE_C, WE_var, WE_h, WE_i, WE_nil, WE_cons, WE_lst, WE_tup, WE_op, opK_some, WE_un, WE_unN, unK_some, WE_b, bK_bl, WE_not, WE_and, WE_or, WE_ite, WE_andV, WE_orV, WE_notV, WS_seq, WS_set, WS_setN, WS_ret, WS_retN, WS_drop, WS_ifS, WS_pass, WS_never, WE_call, WE_callO, WE_opP, WE_n, WE_nl, WE_nnil, WE_ncons, WE_nd0, WE_pl, plK_d, plK_ol, plK_od, WS_for, WS_nx, WS_rt, WS_ex, WF_ok, WF_ex, WS_bindS, id, List.getElem?_cons_zero, List.getElem?_cons_succ, List.set_cons_zero, List.set_cons_succ, look, if_true, if_false, Bool.false_eq_true, Bool.not_true, Bool.not_false, List.map_cons, List.map_nil, List.replicate_succ, List.replicate_zero, List.cons_append, List.nil_append, decide_true, decide_false, WE_par, pK_two, WE_makeK, WE_dpop, WS_dput, WE_lend, WE_callK, WE_ndisp, WE_pairs0, WE_pairs1, WE_ir, WE_join, isOd, isOl, dput, dpop, keyD]
      refine WF_pick (n := n + 50 + rest.length) (by simpa using hpos) (by simp; omega) h3 fun y p5 hy hb5 => ?_
      obtain ⟨z, hz, rfl⟩ := List.mem_map.mp hy
      refine ⟨rfl, m ++ [z], by simp, by rw [List.length_append]; simp; omega, fun w hw => ?_, hb5⟩
      rcases List.mem_append.mp hw with hw | hw
      · exact h2 w hw
      · rw [show w = z by simpa using hw]; exact hz
    · obtain ⟨m, rfl, h1, h2, h3⟩ := hI
      have hml : ∀ x ∈ m, Lt x := fun x hx => hlt x (h2 x hx)
      obtain ⟨w1, w2, w3⟩ := join_wd hml
      have hw2 : (Txt.join ("" : Str) m).length ≤ 2000 := by rw [w2]; omega
      try simp only [WE_ok, WE_ex, WE_bind, WE_C, WE_var, WE_h, WE_i, WE_nil, WE_cons, WE_lst, WE_tup, WE_op, opK_some, WE_un, WE_unN, unK_some, WE_b, bK_bl, WE_not, WE_and, WE_or, WE_ite, WE_andV, WE_orV, WE_notV, WS_seq, WS_set, WS_setN, WS_ret, WS_retN, WS_drop, WS_ifS, WS_pass, WS_never, WE_call, WE_callO, WE_opP, WE_n, WE_nl, WE_nnil, WE_ncons, WE_nd0, WE_pl, plK_d, plK_ol, plK_od, WS_for, WS_nx, WS_rt, WS_ex, WF_ok, WF_ex, WS_bindS, id, List.getElem?_cons_zero, List.getElem?_cons_succ, List.set_cons_zero, List.set_cons_succ, look, if_true, if_false, Bool.false_eq_true, Bool.not_true, Bool.not_false, List.map_cons, List.map_nil, List.replicate_succ, List.replicate_zero, List.cons_append, List.nil_append, decide_true, decide_false, WE_par, pK_two, WE_makeK, WE_dpop, WS_dput, WE_lend, WE_callK, WE_ndisp, WE_pairs0, WE_pairs1, WE_ir, WE_join, isOd, isOl, dput, dpop, keyD]
      refine ⟨join0_c hml (by omega), WF_eq (due_ok hg hw2) ?_⟩
      have hd12 : (Due t (Txt.join ("" : Str) m)).length ≤ 12 := Nat.le_trans (due_len (l := l) (fun x hx => h2 x (w3 x hx)) hk) (by omega)
      have hgd : Good (Due t (Txt.join ("" : Str) m)) := due_good hg w1 hd12
      try simp only [WE_nd (t := t) (.inl rfl), fm2, WE_ok, WE_ex, WE_bind, WE_C, WE_var, WE_h, WE_i, WE_nil, WE_cons, WE_lst, WE_tup, WE_op, opK_some, WE_un, WE_unN, unK_some, WE_b, bK_bl, WE_not, WE_and, WE_or, WE_ite, WE_andV, WE_orV, WE_notV, WS_seq, WS_set, WS_setN, WS_ret, WS_retN, WS_drop, WS_ifS, WS_pass, WS_never, WE_call, WE_callO, WE_opP, WE_n, WE_nl, WE_nnil, WE_ncons, WE_nd0, WE_pl, plK_d, plK_ol, plK_od, WS_for, WS_nx, WS_rt, WS_ex, WF_ok, WF_ex, WS_bindS, id, List.getElem?_cons_zero, List.getElem?_cons_succ, List.set_cons_zero, List.set_cons_succ, look, if_true, if_false, Bool.false_eq_true, Bool.not_true, Bool.not_false, List.map_cons, List.map_nil, List.replicate_succ, List.replicate_zero, List.cons_append, List.nil_append, decide_true, decide_false, WE_par, pK_two, WE_makeK, WE_dpop, WS_dput, WE_lend, WE_callK, WE_ndisp, WE_pairs0, WE_pairs1, WE_ir, WE_join, isOd, isOl, dput, dpop, keyD]
      refine ⟨by simp, WI_make S (.inr rfl) hg w1 hw2 hd12 fun r => ?_⟩
      have hszt : (dK t).length < sizeLine := by rw [dK_len, sizeLine_eq]; have := hg.len; omega
      refine ⟨?_, ?_, nb_dK t, rfl, ?_⟩
      · exact nb_mis
      · simp only [List.set_cons_succ, List.set_cons_zero, List.all_cons, List.all_nil, h2', h8, nbV_d, nbV_no, nbD, nb_dK, nb_strs, Bool.and_self]
      try simp only [hszt, WE_ok, WE_ex, WE_bind, WE_C, WE_var, WE_h, WE_i, WE_nil, WE_cons, WE_lst, WE_tup, WE_op, opK_some, WE_un, WE_unN, unK_some, WE_b, bK_bl, WE_not, WE_and, WE_or, WE_ite, WE_andV, WE_orV, WE_notV, WS_seq, WS_set, WS_setN, WS_ret, WS_retN, WS_drop, WS_ifS, WS_pass, WS_never, WE_call, WE_callO, WE_opP, WE_n, WE_nl, WE_nnil, WE_ncons, WE_nd0, WE_pl, plK_d, plK_ol, plK_od, WS_for, WS_nx, WS_rt, WS_ex, WF_ok, WF_ex, WS_bindS, id, List.getElem?_cons_zero, List.getElem?_cons_succ, List.set_cons_zero, List.set_cons_succ, look, if_true, if_false, Bool.false_eq_true, Bool.not_true, Bool.not_false, List.map_cons, List.map_nil, List.replicate_succ, List.replicate_zero, List.cons_append, List.nil_append, decide_true, decide_false, WE_par, pK_two, WE_makeK, WE_dpop, WS_dput, WE_lend, WE_callK, WE_ndisp, WE_pairs0, WE_pairs1, WE_ir, WE_join, isOd, isOl, dput, dpop, keyD]
      refine ⟨trivial, ?_⟩
      refine right_ok S.ok hgd hgd rfl (fun _ => rfl) ?_
      try simp only [WE_ok, WE_ex, WE_bind, WE_C, WE_var, WE_h, WE_i, WE_nil, WE_cons, WE_lst, WE_tup, WE_op, opK_some, WE_un, WE_unN, unK_some, WE_b, bK_bl, WE_not, WE_and, WE_or, WE_ite, WE_andV, WE_orV, WE_notV, WS_seq, WS_set, WS_setN, WS_ret, WS_retN, WS_drop, WS_ifS, WS_pass, WS_never, WE_call, WE_callO, WE_opP, WE_n, WE_nl, WE_nnil, WE_ncons, WE_nd0, WE_pl, plK_d, plK_ol, plK_od, WS_for, WS_nx, WS_rt, WS_ex, WF_ok, WF_ex, WS_bindS, id, List.getElem?_cons_zero, List.getElem?_cons_succ, List.set_cons_zero, List.set_cons_succ, look, if_true, if_false, Bool.false_eq_true, Bool.not_true, Bool.not_false, List.map_cons, List.map_nil, List.replicate_succ, List.replicate_zero, List.cons_append, List.nil_append, decide_true, decide_false, WE_par, pK_two, WE_makeK, WE_dpop, WS_dput, WE_lend, WE_callK, WE_ndisp, WE_pairs0, WE_pairs1, WE_ir, WE_join, isOd, isOl, dput, dpop, keyD]
      refine other_ok (n := n + 20) S hgd (h3.mono (by simp)) fun p5 hb5 => ?_
      try simp only [WE_makeK, fm0ki, List.reverse_cons, List.reverse_nil, WE_ok, WE_ex, WE_bind, WE_C, WE_var, WE_h, WE_i, WE_nil, WE_cons, WE_lst, WE_tup, WE_op, opK_some, WE_un, WE_unN, unK_some, WE_b, bK_bl, WE_not, WE_and, WE_or, WE_ite, WE_andV, WE_orV, WE_notV, WS_seq, WS_set, WS_setN, WS_ret, WS_retN, WS_drop, WS_ifS, WS_pass, WS_never, WE_call, WE_callO, WE_opP, WE_n, WE_nl, WE_nnil, WE_ncons, WE_nd0, WE_pl, plK_d, plK_ol, plK_od, WS_for, WS_nx, WS_rt, WS_ex, WF_ok, WF_ex, WS_bindS, id, List.getElem?_cons_zero, List.getElem?_cons_succ, List.set_cons_zero, List.set_cons_succ, look, if_true, if_false, Bool.false_eq_true, Bool.not_true, Bool.not_false, List.map_cons, List.map_nil, List.replicate_succ, List.replicate_zero, List.cons_append, List.nil_append, decide_true, decide_false, WE_par, pK_two, WE_makeK, WE_dpop, WS_dput, WE_lend, WE_callK, WE_ndisp, WE_pairs0, WE_pairs1, WE_ir, WE_join, isOd, isOl, dput, dpop, keyD]
      refine ⟨by simp, WI_make S (.inl rfl) hg w1 hw2 hd12 fun r2 => ?_⟩
      show WE _ _ (hEqO true ok tys GE (mis CM r (Due t (Txt.join ("" : Str) m))) (mis CM r2 (Due t (Txt.join ("" : Str) m))) _)
      try simp only [WE_eqO S, eqT_same (t := Due t (Txt.join ("" : Str) m)) (u := Due t (Txt.join ("" : Str) m)) rfl (fun _ => rfl), bne_self_eq_false, WE_ok, WE_ex, WE_bind, WE_C, WE_var, WE_h, WE_i, WE_nil, WE_cons, WE_lst, WE_tup, WE_op, opK_some, WE_un, WE_unN, unK_some, WE_b, bK_bl, WE_not, WE_and, WE_or, WE_ite, WE_andV, WE_orV, WE_notV, WS_seq, WS_set, WS_setN, WS_ret, WS_retN, WS_drop, WS_ifS, WS_pass, WS_never, WE_call, WE_callO, WE_opP, WE_n, WE_nl, WE_nnil, WE_ncons, WE_nd0, WE_pl, plK_d, plK_ol, plK_od, WS_for, WS_nx, WS_rt, WS_ex, WF_ok, WF_ex, WS_bindS, id, List.getElem?_cons_zero, List.getElem?_cons_succ, List.set_cons_zero, List.set_cons_succ, look, if_true, if_false, Bool.false_eq_true, Bool.not_true, Bool.not_false, List.map_cons, List.map_nil, List.replicate_succ, List.replicate_zero, List.cons_append, List.nil_append, decide_true, decide_false, WE_par, pK_two, WE_makeK, WE_dpop, WS_dput, WE_lend, WE_callK, WE_ndisp, WE_pairs0, WE_pairs1, WE_ir, WE_join, isOd, isOl, dput, dpop, keyD]
      exact hN _ _ _ _ _ _ _ (nb_mis (CM := CM)) (hb5.mono (by omega))
  refine WE_neC (n := 1) (m := 1) hcl rfl (fun e => ?_) fun e => ?_
  · have hl0 : l = [] := by
      cases l with
      | nil => rfl
      | cons x l => simp at e
    subst hl0
    have h := key [] p2 ⟨(fun q hq => nomatch hq), (fun q hq => nomatch hq), by simp [keys], by simp⟩ (fun x hx => nomatch hx) (hb2.mono (by omega))
    try simp only [WE_ok, WE_ex, WE_bind, WE_C, WE_var, WE_h, WE_i, WE_nil, WE_cons, WE_lst, WE_tup, WE_op, opK_some, WE_un, WE_unN, unK_some, WE_b, bK_bl, WE_not, WE_and, WE_or, WE_ite, WE_andV, WE_orV, WE_notV, WS_seq, WS_set, WS_setN, WS_ret, WS_retN, WS_drop, WS_ifS, WS_pass, WS_never, WE_call, WE_callO, WE_opP, WE_n, WE_nl, WE_nnil, WE_ncons, WE_nd0, WE_pl, plK_d, plK_ol, plK_od, WS_for, WS_nx, WS_rt, WS_ex, WF_ok, WF_ex, WS_bindS, id, List.getElem?_cons_zero, List.getElem?_cons_succ, List.set_cons_zero, List.set_cons_succ, look, if_true, if_false, Bool.false_eq_true, Bool.not_true, Bool.not_false, List.map_cons, List.map_nil, List.replicate_succ, List.replicate_zero, List.cons_append, List.nil_append, decide_true, decide_false, WE_par, pK_two, WE_makeK, WE_dpop, WS_dput, WE_lend, WE_callK, WE_ndisp, WE_pairs0, WE_pairs1, WE_ir, WE_join, isOd, isOl, dput, dpop, keyD]
    try simp only [WE_ok, WE_ex, WE_bind, WE_C, WE_var, WE_h, WE_i, WE_nil, WE_cons, WE_lst, WE_tup, WE_op, opK_some, WE_un, WE_unN, unK_some, WE_b, bK_bl, WE_not, WE_and, WE_or, WE_ite, WE_andV, WE_orV, WE_notV, WS_seq, WS_set, WS_setN, WS_ret, WS_retN, WS_drop, WS_ifS, WS_pass, WS_never, WE_call, WE_callO, WE_opP, WE_n, WE_nl, WE_nnil, WE_ncons, WE_nd0, WE_pl, plK_d, plK_ol, plK_od, WS_for, WS_nx, WS_rt, WS_ex, WF_ok, WF_ex, WS_bindS, id, List.getElem?_cons_zero, List.getElem?_cons_succ, List.set_cons_zero, List.set_cons_succ, look, if_true, if_false, Bool.false_eq_true, Bool.not_true, Bool.not_false, List.map_cons, List.map_nil, List.replicate_succ, List.replicate_zero, List.cons_append, List.nil_append, decide_true, decide_false, WE_par, pK_two, WE_makeK, WE_dpop, WS_dput, WE_lend, WE_callK, WE_ndisp, WE_pairs0, WE_pairs1, WE_ir, WE_join, isOd, isOl, dput, dpop, keyD] at h
    exact h
  · have hne : l ≠ [] := fun z => by
      rw [z] at e
      exact e rfl
    try simp only [WE_ok, WE_ex, WE_bind, WE_C, WE_var, WE_h, WE_i, WE_nil, WE_cons, WE_lst, WE_tup, WE_op, opK_some, WE_un, WE_unN, unK_some, WE_b, bK_bl, WE_not, WE_and, WE_or, WE_ite, WE_andV, WE_orV, WE_notV, WS_seq, WS_set, WS_setN, WS_ret, WS_retN, WS_drop, WS_ifS, WS_pass, WS_never, WE_call, WE_callO, WE_opP, WE_n, WE_nl, WE_nnil, WE_ncons, WE_nd0, WE_pl, plK_d, plK_ol, plK_od, WS_for, WS_nx, WS_rt, WS_ex, WF_ok, WF_ex, WS_bindS, id, List.getElem?_cons_zero, List.getElem?_cons_succ, List.set_cons_zero, List.set_cons_succ, look, if_true, if_false, Bool.false_eq_true, Bool.not_true, Bool.not_false, List.map_cons, List.map_nil, List.replicate_succ, List.replicate_zero, List.cons_append, List.nil_append, decide_true, decide_false, WE_par, pK_two, WE_makeK, WE_dpop, WS_dput, WE_lend, WE_callK, WE_ndisp, WE_pairs0, WE_pairs1, WE_ir, WE_join, isOd, isOl, dput, dpop, keyD]
    obtain ⟨t, p3, e3, hg, hk, hb3⟩ := table_ok (ok := ok) (CM := CM) (tys := tys) (GM := GM) (GS := GS) (GE := GE) (GH := (FDof 2 0 (g_m_has cs subs others CM ok))) (GG_ := (FDof 2 0 (g_m_get cs subs others CM ok))) (GL := (FDof 1 0 (g_m_len cs subs others CM ok))) (GT := (FDof 1 1 (g_m_str cs subs others CM ok))) (l := l) (n := n + 60) (List.length_pos_iff.mpr hne) (by omega) hnd hlt (hb2.mono (by omega))
    refine WF_eq e3 ?_
    have h := key t p3 hg hk hb3
    try simp only [WE_ok, WE_ex, WE_bind, WE_C, WE_var, WE_h, WE_i, WE_nil, WE_cons, WE_lst, WE_tup, WE_op, opK_some, WE_un, WE_unN, unK_some, WE_b, bK_bl, WE_not, WE_and, WE_or, WE_ite, WE_andV, WE_orV, WE_notV, WS_seq, WS_set, WS_setN, WS_ret, WS_retN, WS_drop, WS_ifS, WS_pass, WS_never, WE_call, WE_callO, WE_opP, WE_n, WE_nl, WE_nnil, WE_ncons, WE_nd0, WE_pl, plK_d, plK_ol, plK_od, WS_for, WS_nx, WS_rt, WS_ex, WF_ok, WF_ex, WS_bindS, id, List.getElem?_cons_zero, List.getElem?_cons_succ, List.set_cons_zero, List.set_cons_succ, look, if_true, if_false, Bool.false_eq_true, Bool.not_true, Bool.not_false, List.map_cons, List.map_nil, List.replicate_succ, List.replicate_zero, List.cons_append, List.nil_append, decide_true, decide_false, WE_par, pK_two, WE_makeK, WE_dpop, WS_dput, WE_lend, WE_callK, WE_ndisp, WE_pairs0, WE_pairs1, WE_ir, WE_join, isOd, isOl, dput, dpop, keyD]
    try simp only [WE_ok, WE_ex, WE_bind, WE_C, WE_var, WE_h, WE_i, WE_nil, WE_cons, WE_lst, WE_tup, WE_op, opK_some, WE_un, WE_unN, unK_some, WE_b, bK_bl, WE_not, WE_and, WE_or, WE_ite, WE_andV, WE_orV, WE_notV, WS_seq, WS_set, WS_setN, WS_ret, WS_retN, WS_drop, WS_ifS, WS_pass, WS_never, WE_call, WE_callO, WE_opP, WE_n, WE_nl, WE_nnil, WE_ncons, WE_nd0, WE_pl, plK_d, plK_ol, plK_od, WS_for, WS_nx, WS_rt, WS_ex, WF_ok, WF_ex, WS_bindS, id, List.getElem?_cons_zero, List.getElem?_cons_succ, List.set_cons_zero, List.set_cons_succ, look, if_true, if_false, Bool.false_eq_true, Bool.not_true, Bool.not_false, List.map_cons, List.map_nil, List.replicate_succ, List.replicate_zero, List.cons_append, List.nil_append, decide_true, decide_false, WE_par, pK_two, WE_makeK, WE_dpop, WS_dput, WE_lend, WE_callK, WE_ndisp, WE_pairs0, WE_pairs1, WE_ir, WE_join, isOd, isOl, dput, dpop, keyD] at h
    exact h
theorem im_aaaa : Im "aaaa" := by
  have h : ∀ w : Str, (∀ c ∈ w.cps.toList, 97 ≤ c ∧ c ≤ 122) → 1 ≤ w.length → w.length ≤ 4 → Im w := fun w h1 h2 h3 => ⟨h1, h2, h3⟩
  exact h _ (by decide +kernel) (by decide +kernel) (by decide +kernel)
theorem lt_of {x : Str} (c : Nat) (h : 97 ≤ c ∧ c ≤ 122) (e : x = sg c) : Lt x := ⟨c, h, e⟩
theorem wd_of {w : Str} (h : ∀ c ∈ w.cps.toList, 97 ≤ c ∧ c ≤ 122) : Wd w := h
theorem good_b : Good [("b", "aaaa")] := ⟨fun q hq => by
    rw [show q = (("b", "aaaa") : Str × Str) by simpa using hq]
    exact lt_of 98 (by decide) (by decide +kernel), fun q hq => by
    rw [show q = (("b", "aaaa") : Str × Str) by simpa using hq]
    exact im_aaaa, by simp [keys], by simp⟩
theorem good_az : Good [("a", "a"), ("z", "z")] := by
  have la : Lt "a" := lt_of 97 (by decide) (by decide +kernel)
  have lz : Lt "z" := lt_of 122 (by decide) (by decide +kernel)
  refine ⟨fun q hq => ?_, fun q hq => ?_, by decide +kernel, by simp⟩
  · simp at hq
    rcases hq with rfl | rfl
    · exact la
    · exact lz
  · simp at hq
    rcases hq with rfl | rfl
    · exact la.im
    · exact lz.im
theorem good_nil : Good [] := ⟨(fun q hq => nomatch hq), (fun q hq => nomatch hq), by simp [keys], by simp⟩
theorem hlaw_ok (S : Sem ok CM tys GM GS GE (FDof 2 0 (g_m_has cs subs others CM ok)) (FDof 2 0 (g_m_get cs subs others CM ok)) (FDof 1 0 (g_m_len cs subs others CM ok)) (FDof 1 1 (g_m_str cs subs others CM ok))) (ns : List Int) : ∃ p', g_law ok CM tys GM GS GE (FDof 2 0 (g_m_has cs subs others CM ok)) (FDof 2 0 (g_m_get cs subs others CM ok)) (FDof 1 0 (g_m_len cs subs others CM ok)) (FDof 1 1 (g_m_str cs subs others CM ok)) ⟨.no :: .d .pen :: List.replicate 9 .no, pen0 ns⟩ = .rt (.bl true) p' := by
  have main : WS (fun _ => False) (fun d _ => d = .bl true) X0 (g_law ok CM tys GM GS GE (FDof 2 0 (g_m_has cs subs others CM ok)) (FDof 2 0 (g_m_get cs subs others CM ok)) (FDof 1 0 (g_m_len cs subs others CM ok)) (FDof 1 1 (g_m_str cs subs others CM ok)) ⟨.no :: .d .pen :: List.replicate 9 .no, pen0 ns⟩) := by
    unfold g_law
    try simp only [WE_ok, WE_ex, WE_bind, WE_C, WE_var, WE_h, WE_i, WE_nil, WE_cons, WE_lst, WE_tup, WE_op, opK_some, WE_un, WE_unN, unK_some, WE_b, bK_bl, WE_not, WE_and, WE_or, WE_ite, WE_andV, WE_orV, WE_notV, WS_seq, WS_set, WS_setN, WS_ret, WS_retN, WS_drop, WS_ifS, WS_pass, WS_never, WE_call, WE_callO, WE_opP, WE_n, WE_nl, WE_nnil, WE_ncons, WE_nd0, WE_pl, plK_d, plK_ol, plK_od, WS_for, WS_nx, WS_rt, WS_ex, WF_ok, WF_ex, WS_bindS, id, List.getElem?_cons_zero, List.getElem?_cons_succ, List.set_cons_zero, List.set_cons_succ, look, if_true, if_false, Bool.false_eq_true, Bool.not_true, Bool.not_false, List.map_cons, List.map_nil, List.replicate_succ, List.replicate_zero, List.cons_append, List.nil_append, decide_true, decide_false, WE_par, pK_two, WE_makeK, WE_dpop, WS_dput, WE_lend, WE_callK, WE_ndisp, WE_pairs0, WE_pairs1, WE_ir, WE_join, isOd, isOl, dput, dpop, keyD]
    refine ⟨by decide, ?_⟩
    refine WS_loop (fun ds s => (∀ d ∈ ds, nbD d = true) ∧ ∃ a2 a3 a4 a5 a6 a7 a8 p, s = ⟨[.no, .d .pen, a2, a3, a4, a5, a6, a7, a8, .no, .no], p⟩ ∧ nbV a8 = true ∧ Bg (200 * ds.length) p) _ _ ⟨by decide, .no, .no, .no, .no, .no, .no, .no, pen0 ns, rfl, rfl, ⟨Int.le_refl 0, by show (0 : Int) + ((200 * (rangeD 5).length : Nat) : Int) ≤ 100000; decide⟩⟩ (fun d ds s hI => ?_) fun s hI => ?_
    · obtain ⟨hd, a2, a3, a4, a5, a6, a7, a8, p, rfl, h8, hb⟩ := hI
      rw [List.length_cons] at hb
      refine ⟨_, rfl, ?_⟩
      try simp only [WE_ok, WE_ex, WE_bind, WE_C, WE_var, WE_h, WE_i, WE_nil, WE_cons, WE_lst, WE_tup, WE_op, opK_some, WE_un, WE_unN, unK_some, WE_b, bK_bl, WE_not, WE_and, WE_or, WE_ite, WE_andV, WE_orV, WE_notV, WS_seq, WS_set, WS_setN, WS_ret, WS_retN, WS_drop, WS_ifS, WS_pass, WS_never, WE_call, WE_callO, WE_opP, WE_n, WE_nl, WE_nnil, WE_ncons, WE_nd0, WE_pl, plK_d, plK_ol, plK_od, WS_for, WS_nx, WS_rt, WS_ex, WF_ok, WF_ex, WS_bindS, id, List.getElem?_cons_zero, List.getElem?_cons_succ, List.set_cons_zero, List.set_cons_succ, look, if_true, if_false, Bool.false_eq_true, Bool.not_true, Bool.not_false, List.map_cons, List.map_nil, List.replicate_succ, List.replicate_zero, List.cons_append, List.nil_append, decide_true, decide_false, WE_par, pK_two, WE_makeK, WE_dpop, WS_dput, WE_lend, WE_callK, WE_ndisp, WE_pairs0, WE_pairs1, WE_ir, WE_join, isOd, isOl, dput, dpop, keyD]
      have h := turn_ok (cs := cs) (subs := subs) (others := others) (ok := ok) (CM := CM) (tys := tys) (GM := GM) (GS := GS) (GE := GE) S (R := fun d _ => d = .bl true) (n := 200 * ds.length) (a2 := .d d) (a3 := a3) (a4 := a4) (a5 := a5) (a6 := a6) (a7 := a7) (a8 := a8) (p := p) (hb.mono (by omega)) (hd d (List.mem_cons_self ..)) h8 (N := fun s => (∀ d ∈ ds, nbD d = true) ∧ ∃ a2 a3 a4 a5 a6 a7 a8 p, s = ⟨[.no, .d .pen, a2, a3, a4, a5, a6, a7, a8, .no, .no], p⟩ ∧ nbV a8 = true ∧ Bg (200 * ds.length) p)
        fun a3 a4 a5 a6 a7 a8 p h8 hb => ⟨fun x hx => hd x (List.mem_cons_of_mem _ hx), _, a3, a4, a5, a6, a7, a8, p, rfl, h8, hb⟩
      try simp only [WE_ok, WE_ex, WE_bind, WE_C, WE_var, WE_h, WE_i, WE_nil, WE_cons, WE_lst, WE_tup, WE_op, opK_some, WE_un, WE_unN, unK_some, WE_b, bK_bl, WE_not, WE_and, WE_or, WE_ite, WE_andV, WE_orV, WE_notV, WS_seq, WS_set, WS_setN, WS_ret, WS_retN, WS_drop, WS_ifS, WS_pass, WS_never, WE_call, WE_callO, WE_opP, WE_n, WE_nl, WE_nnil, WE_ncons, WE_nd0, WE_pl, plK_d, plK_ol, plK_od, WS_for, WS_nx, WS_rt, WS_ex, WF_ok, WF_ex, WS_bindS, id, List.getElem?_cons_zero, List.getElem?_cons_succ, List.set_cons_zero, List.set_cons_succ, look, if_true, if_false, Bool.false_eq_true, Bool.not_true, Bool.not_false, List.map_cons, List.map_nil, List.replicate_succ, List.replicate_zero, List.cons_append, List.nil_append, decide_true, decide_false, WE_par, pK_two, WE_makeK, WE_dpop, WS_dput, WE_lend, WE_callK, WE_ndisp, WE_pairs0, WE_pairs1, WE_ir, WE_join, isOd, isOl, dput, dpop, keyD] at h
      exact h
    · obtain ⟨hd, a2, a3, a4, a5, a6, a7, a8, p, rfl, h8, hb⟩ := hI
      try simp only [fm1k, WE_ok, WE_ex, WE_bind, WE_C, WE_var, WE_h, WE_i, WE_nil, WE_cons, WE_lst, WE_tup, WE_op, opK_some, WE_un, WE_unN, unK_some, WE_b, bK_bl, WE_not, WE_and, WE_or, WE_ite, WE_andV, WE_orV, WE_notV, WS_seq, WS_set, WS_setN, WS_ret, WS_retN, WS_drop, WS_ifS, WS_pass, WS_never, WE_call, WE_callO, WE_opP, WE_n, WE_nl, WE_nnil, WE_ncons, WE_nd0, WE_pl, plK_d, plK_ol, plK_od, WS_for, WS_nx, WS_rt, WS_ex, WF_ok, WF_ex, WS_bindS, id, List.getElem?_cons_zero, List.getElem?_cons_succ, List.set_cons_zero, List.set_cons_succ, look, if_true, if_false, Bool.false_eq_true, Bool.not_true, Bool.not_false, List.map_cons, List.map_nil, List.replicate_succ, List.replicate_zero, List.cons_append, List.nil_append, decide_true, decide_false, WE_par, pK_two, WE_makeK, WE_dpop, WS_dput, WE_lend, WE_callK, WE_ndisp, WE_pairs0, WE_pairs1, WE_ir, WE_join, isOd, isOl, dput, dpop, keyD]
      refine ⟨by simp, by simp, ?_⟩
      have hw1 : Wd "aacdefghijkl" := wd_of (by decide +kernel)
      have hD : (Due [("b", "aaaa")] "aacdefghijkl").length = 12 := by decide +kernel
      have hc : (sortS (keys (Due [("b", "aaaa")] "aacdefghijkl"))).filter (chg (Due [("b", "aaaa")] "aacdefghijkl")) = (["b"] : List Str) := by decide +kernel
      show WI _ _ (GM [.dic (dK [("b", "aaaa")]), .str "aacdefghijkl"] p)
      refine WI_make S (.inl rfl) good_b hw1 (by decide +kernel) (by rw [hD]; decide) fun r => ?_
      generalize hDD : Due [("b", "aaaa")] "aacdefghijkl" = D at *
      try simp only [WE_ok, WE_ex, WE_bind, WE_C, WE_var, WE_h, WE_i, WE_nil, WE_cons, WE_lst, WE_tup, WE_op, opK_some, WE_un, WE_unN, unK_some, WE_b, bK_bl, WE_not, WE_and, WE_or, WE_ite, WE_andV, WE_orV, WE_notV, WS_seq, WS_set, WS_setN, WS_ret, WS_retN, WS_drop, WS_ifS, WS_pass, WS_never, WE_call, WE_callO, WE_opP, WE_n, WE_nl, WE_nnil, WE_ncons, WE_nd0, WE_pl, plK_d, plK_ol, plK_od, WS_for, WS_nx, WS_rt, WS_ex, WF_ok, WF_ex, WS_bindS, id, List.getElem?_cons_zero, List.getElem?_cons_succ, List.set_cons_zero, List.set_cons_succ, look, if_true, if_false, Bool.false_eq_true, Bool.not_true, Bool.not_false, List.map_cons, List.map_nil, List.replicate_succ, List.replicate_zero, List.cons_append, List.nil_append, decide_true, decide_false, WE_par, pK_two, WE_makeK, WE_dpop, WS_dput, WE_lend, WE_callK, WE_ndisp, WE_pairs0, WE_pairs1, WE_ir, WE_join, isOd, isOl, dput, dpop, keyD]
      show WE _ _ (hLenO ok (FDof 1 0 (g_m_len cs subs others CM ok)) (mis CM r D) _)
      try simp only [WE_lenO S.ok (show D.length ≤ 12 by omega), hD, WE_neI, WE_ok, WE_ex, WE_bind, WE_C, WE_var, WE_h, WE_i, WE_nil, WE_cons, WE_lst, WE_tup, WE_op, opK_some, WE_un, WE_unN, unK_some, WE_b, bK_bl, WE_not, WE_and, WE_or, WE_ite, WE_andV, WE_orV, WE_notV, WS_seq, WS_set, WS_setN, WS_ret, WS_retN, WS_drop, WS_ifS, WS_pass, WS_never, WE_call, WE_callO, WE_opP, WE_n, WE_nl, WE_nnil, WE_ncons, WE_nd0, WE_pl, plK_d, plK_ol, plK_od, WS_for, WS_nx, WS_rt, WS_ex, WF_ok, WF_ex, WS_bindS, id, List.getElem?_cons_zero, List.getElem?_cons_succ, List.set_cons_zero, List.set_cons_succ, look, if_true, if_false, Bool.false_eq_true, Bool.not_true, Bool.not_false, List.map_cons, List.map_nil, List.replicate_succ, List.replicate_zero, List.cons_append, List.nil_append, decide_true, decide_false, WE_par, pK_two, WE_makeK, WE_dpop, WS_dput, WE_lend, WE_callK, WE_ndisp, WE_pairs0, WE_pairs1, WE_ir, WE_join, isOd, isOl, dput, dpop, keyD]
      show WE _ _ (hFld "changed" ok (mis CM r D) _)
      try simp only [WE_fldC S.ok, hc, WE_ok, WE_ex, WE_bind, WE_C, WE_var, WE_h, WE_i, WE_nil, WE_cons, WE_lst, WE_tup, WE_op, opK_some, WE_un, WE_unN, unK_some, WE_b, bK_bl, WE_not, WE_and, WE_or, WE_ite, WE_andV, WE_orV, WE_notV, WS_seq, WS_set, WS_setN, WS_ret, WS_retN, WS_drop, WS_ifS, WS_pass, WS_never, WE_call, WE_callO, WE_opP, WE_n, WE_nl, WE_nnil, WE_ncons, WE_nd0, WE_pl, plK_d, plK_ol, plK_od, WS_for, WS_nx, WS_rt, WS_ex, WF_ok, WF_ex, WS_bindS, id, List.getElem?_cons_zero, List.getElem?_cons_succ, List.set_cons_zero, List.set_cons_succ, look, if_true, if_false, Bool.false_eq_true, Bool.not_true, Bool.not_false, List.map_cons, List.map_nil, List.replicate_succ, List.replicate_zero, List.cons_append, List.nil_append, decide_true, decide_false, WE_par, pK_two, WE_makeK, WE_dpop, WS_dput, WE_lend, WE_callK, WE_ndisp, WE_pairs0, WE_pairs1, WE_ir, WE_join, isOd, isOl, dput, dpop, keyD]
      refine ⟨sz12 (by simp), WE_ne_same (n := 1) (cln_tup (clns_str (l := ["b"]) (by decide +kernel))) rfl ?_⟩
      try simp only [fm0i, WE_ok, WE_ex, WE_bind, WE_C, WE_var, WE_h, WE_i, WE_nil, WE_cons, WE_lst, WE_tup, WE_op, opK_some, WE_un, WE_unN, unK_some, WE_b, bK_bl, WE_not, WE_and, WE_or, WE_ite, WE_andV, WE_orV, WE_notV, WS_seq, WS_set, WS_setN, WS_ret, WS_retN, WS_drop, WS_ifS, WS_pass, WS_never, WE_call, WE_callO, WE_opP, WE_n, WE_nl, WE_nnil, WE_ncons, WE_nd0, WE_pl, plK_d, plK_ol, plK_od, WS_for, WS_nx, WS_rt, WS_ex, WF_ok, WF_ex, WS_bindS, id, List.getElem?_cons_zero, List.getElem?_cons_succ, List.set_cons_zero, List.set_cons_succ, look, if_true, if_false, Bool.false_eq_true, Bool.not_true, Bool.not_false, List.map_cons, List.map_nil, List.replicate_succ, List.replicate_zero, List.cons_append, List.nil_append, decide_true, decide_false, WE_par, pK_two, WE_makeK, WE_dpop, WS_dput, WE_lend, WE_callK, WE_ndisp, WE_pairs0, WE_pairs1, WE_ir, WE_join, isOd, isOl, dput, dpop, keyD]
      refine ⟨by simp, WI_make1 S (t := []) (.inl rfl) good_nil fun r2 => ?_⟩
      try simp only [WE_ok, WE_ex, WE_bind, WE_C, WE_var, WE_h, WE_i, WE_nil, WE_cons, WE_lst, WE_tup, WE_op, opK_some, WE_un, WE_unN, unK_some, WE_b, bK_bl, WE_not, WE_and, WE_or, WE_ite, WE_andV, WE_orV, WE_notV, WS_seq, WS_set, WS_setN, WS_ret, WS_retN, WS_drop, WS_ifS, WS_pass, WS_never, WE_call, WE_callO, WE_opP, WE_n, WE_nl, WE_nnil, WE_ncons, WE_nd0, WE_pl, plK_d, plK_ol, plK_od, WS_for, WS_nx, WS_rt, WS_ex, WF_ok, WF_ex, WS_bindS, id, List.getElem?_cons_zero, List.getElem?_cons_succ, List.set_cons_zero, List.set_cons_succ, look, if_true, if_false, Bool.false_eq_true, Bool.not_true, Bool.not_false, List.map_cons, List.map_nil, List.replicate_succ, List.replicate_zero, List.cons_append, List.nil_append, decide_true, decide_false, WE_par, pK_two, WE_makeK, WE_dpop, WS_dput, WE_lend, WE_callK, WE_ndisp, WE_pairs0, WE_pairs1, WE_ir, WE_join, isOd, isOl, dput, dpop, keyD]
      refine ⟨by simp, WF_same S nil_wd (by decide +kernel) (by decide +kernel) fun r3 => ?_⟩
      show WE _ _ (hEqO true ok tys GE (mis CM r2 []) (mis CM r3 (Due [] "")) _)
      try simp only [WE_eqO S, show eqT [] (Due [] "") = true by decide +kernel, bne_self_eq_false, WE_ok, WE_ex, WE_bind, WE_C, WE_var, WE_h, WE_i, WE_nil, WE_cons, WE_lst, WE_tup, WE_op, opK_some, WE_un, WE_unN, unK_some, WE_b, bK_bl, WE_not, WE_and, WE_or, WE_ite, WE_andV, WE_orV, WE_notV, WS_seq, WS_set, WS_setN, WS_ret, WS_retN, WS_drop, WS_ifS, WS_pass, WS_never, WE_call, WE_callO, WE_opP, WE_n, WE_nl, WE_nnil, WE_ncons, WE_nd0, WE_pl, plK_d, plK_ol, plK_od, WS_for, WS_nx, WS_rt, WS_ex, WF_ok, WF_ex, WS_bindS, id, List.getElem?_cons_zero, List.getElem?_cons_succ, List.set_cons_zero, List.set_cons_succ, look, if_true, if_false, Bool.false_eq_true, Bool.not_true, Bool.not_false, List.map_cons, List.map_nil, List.replicate_succ, List.replicate_zero, List.cons_append, List.nil_append, decide_true, decide_false, WE_par, pK_two, WE_makeK, WE_dpop, WS_dput, WE_lend, WE_callK, WE_ndisp, WE_pairs0, WE_pairs1, WE_ir, WE_join, isOd, isOl, dput, dpop, keyD]
      refine WF_same S (wd_of (by decide +kernel)) (by decide +kernel) (by decide +kernel) fun r4 => ?_
      try simp only [WE_ok, WE_ex, WE_bind, WE_C, WE_var, WE_h, WE_i, WE_nil, WE_cons, WE_lst, WE_tup, WE_op, opK_some, WE_un, WE_unN, unK_some, WE_b, bK_bl, WE_not, WE_and, WE_or, WE_ite, WE_andV, WE_orV, WE_notV, WS_seq, WS_set, WS_setN, WS_ret, WS_retN, WS_drop, WS_ifS, WS_pass, WS_never, WE_call, WE_callO, WE_opP, WE_n, WE_nl, WE_nnil, WE_ncons, WE_nd0, WE_pl, plK_d, plK_ol, plK_od, WS_for, WS_nx, WS_rt, WS_ex, WF_ok, WF_ex, WS_bindS, id, List.getElem?_cons_zero, List.getElem?_cons_succ, List.set_cons_zero, List.set_cons_succ, look, if_true, if_false, Bool.false_eq_true, Bool.not_true, Bool.not_false, List.map_cons, List.map_nil, List.replicate_succ, List.replicate_zero, List.cons_append, List.nil_append, decide_true, decide_false, WE_par, pK_two, WE_makeK, WE_dpop, WS_dput, WE_lend, WE_callK, WE_ndisp, WE_pairs0, WE_pairs1, WE_ir, WE_join, isOd, isOl, dput, dpop, keyD]
      refine ⟨by simp, ?_⟩
      show WF _ _ (F__law_right ok CM tys GM GS GE (FDof 2 0 (g_m_has cs subs others CM ok)) (FDof 2 0 (g_m_get cs subs others CM ok)) (FDof 1 0 (g_m_len cs subs others CM ok)) (FDof 1 1 (g_m_str cs subs others CM ok)) [mis CM r4 (Due [] "zaz"), .dic (dK [("a", "a"), ("z", "z")])] p)
      have gz : Good (Due [] "zaz") := due_good good_nil (wd_of (by decide +kernel)) (by decide +kernel)
      refine right_ok S.ok gz good_az (by decide +kernel) (fun x => ?_) ?_
      · rw [show Due [] "zaz" = ([("z", "z"), ("a", "a")] : List (Str × Str)) by decide +kernel]
        by_cases h1 : ("a" : Str) = x
        · subst h1
          decide +kernel
        · by_cases h2 : ("z" : Str) = x
          · subst h2
            decide +kernel
          · simp [val?, h1, h2]
      · try simp only [WE_ok, WE_ex, WE_bind, WE_C, WE_var, WE_h, WE_i, WE_nil, WE_cons, WE_lst, WE_tup, WE_op, opK_some, WE_un, WE_unN, unK_some, WE_b, bK_bl, WE_not, WE_and, WE_or, WE_ite, WE_andV, WE_orV, WE_notV, WS_seq, WS_set, WS_setN, WS_ret, WS_retN, WS_drop, WS_ifS, WS_pass, WS_never, WE_call, WE_callO, WE_opP, WE_n, WE_nl, WE_nnil, WE_ncons, WE_nd0, WE_pl, plK_d, plK_ol, plK_od, WS_for, WS_nx, WS_rt, WS_ex, WF_ok, WF_ex, WS_bindS, id, List.getElem?_cons_zero, List.getElem?_cons_succ, List.set_cons_zero, List.set_cons_succ, look, if_true, if_false, Bool.false_eq_true, Bool.not_true, Bool.not_false, List.map_cons, List.map_nil, List.replicate_succ, List.replicate_zero, List.cons_append, List.nil_append, decide_true, decide_false, WE_par, pK_two, WE_makeK, WE_dpop, WS_dput, WE_lend, WE_callK, WE_ndisp, WE_pairs0, WE_pairs1, WE_ir, WE_join, isOd, isOl, dput, dpop, keyD]
        refine WF_same S (wd_of (by decide +kernel)) (by decide +kernel) (by decide +kernel) fun r5 => ?_
        try simp only [fm2, WE_ok, WE_ex, WE_bind, WE_C, WE_var, WE_h, WE_i, WE_nil, WE_cons, WE_lst, WE_tup, WE_op, opK_some, WE_un, WE_unN, unK_some, WE_b, bK_bl, WE_not, WE_and, WE_or, WE_ite, WE_andV, WE_orV, WE_notV, WS_seq, WS_set, WS_setN, WS_ret, WS_retN, WS_drop, WS_ifS, WS_pass, WS_never, WE_call, WE_callO, WE_opP, WE_n, WE_nl, WE_nnil, WE_ncons, WE_nd0, WE_pl, plK_d, plK_ol, plK_od, WS_for, WS_nx, WS_rt, WS_ex, WF_ok, WF_ex, WS_bindS, id, List.getElem?_cons_zero, List.getElem?_cons_succ, List.set_cons_zero, List.set_cons_succ, look, if_true, if_false, Bool.false_eq_true, Bool.not_true, Bool.not_false, List.map_cons, List.map_nil, List.replicate_succ, List.replicate_zero, List.cons_append, List.nil_append, decide_true, decide_false, WE_par, pK_two, WE_makeK, WE_dpop, WS_dput, WE_lend, WE_callK, WE_ndisp, WE_pairs0, WE_pairs1, WE_ir, WE_join, isOd, isOl, dput, dpop, keyD]
        refine ⟨by simp, WI_make S (t := []) (.inl rfl) good_nil (wd_of (by decide +kernel)) (by decide +kernel) (by decide +kernel) fun r6 => ?_⟩
        show WE _ _ (hEqO false ok tys GE (mis CM r5 (Due [] "az")) (mis CM r6 (Due [] "za")) _)
        try simp only [WE_eqO S, show eqT (Due [] "az") (Due [] "za") = true by decide +kernel, Bool.false_bne, WE_ok, WE_ex, WE_bind, WE_C, WE_var, WE_h, WE_i, WE_nil, WE_cons, WE_lst, WE_tup, WE_op, opK_some, WE_un, WE_unN, unK_some, WE_b, bK_bl, WE_not, WE_and, WE_or, WE_ite, WE_andV, WE_orV, WE_notV, WS_seq, WS_set, WS_setN, WS_ret, WS_retN, WS_drop, WS_ifS, WS_pass, WS_never, WE_call, WE_callO, WE_opP, WE_n, WE_nl, WE_nnil, WE_ncons, WE_nd0, WE_pl, plK_d, plK_ol, plK_od, WS_for, WS_nx, WS_rt, WS_ex, WF_ok, WF_ex, WS_bindS, id, List.getElem?_cons_zero, List.getElem?_cons_succ, List.set_cons_zero, List.set_cons_succ, look, if_true, if_false, Bool.false_eq_true, Bool.not_true, Bool.not_false, List.map_cons, List.map_nil, List.replicate_succ, List.replicate_zero, List.cons_append, List.nil_append, decide_true, decide_false, WE_par, pK_two, WE_makeK, WE_dpop, WS_dput, WE_lend, WE_callK, WE_ndisp, WE_pairs0, WE_pairs1, WE_ir, WE_join, isOd, isOl, dput, dpop, keyD]
  cases q : g_law ok CM tys GM GS GE (FDof 2 0 (g_m_has cs subs others CM ok)) (FDof 2 0 (g_m_get cs subs others CM ok)) (FDof 1 0 (g_m_len cs subs others CM ok)) (FDof 1 1 (g_m_str cs subs others CM ok)) ⟨.no :: .d .pen :: List.replicate 9 .no, pen0 ns⟩ with
  | rt d p =>
    rw [q] at main
    exact ⟨p, by rw [show d = .bl true from main]⟩
  | _ => rw [q] at main; exact main.elim
end
end BD
namespace BD
open PySem PySem.Spec PyProof.Rows L2
open PySem.W (nsIn findIn typeIn keepIn subIn mroIn clsIn hasDictIn specialIn takesIn kitOne exmOne alongIn codeIn plainGet plainOver notFirst isFn fnIn makesIn readsIn findCls recIn)
def cIns (K : PySem.W.Frag) (C : Addr) : Bool := plainGet K C Str.empty && (hasDictIn K C && (plainOver K C && ((findIn K (.ref C) "__setattr__" == some (some (.builtin "object.__setattr__"))) && ((findIn K (.ref C) "__class__" == some (some (.builtin "object.__class__"))) && ((specialIn K (.builtin "object.__class__") "__get__" == some (some (.builtin "getset_descriptor.__get__"))) && ((takesIn K (.builtin "object.__class__") == some true) && (mroIn K C (.type "object") == some true)))))))
theorem cIns_ok {K : PySem.W.Frag} {C : Addr} (e : cIns K C = true) : InsK K C := by
  unfold cIns at e
  simp only [Bool.and_eq_true, beq_iff_eq] at e
  obtain ⟨h1, h2, h3, h4, h5, h6, h7, h8⟩ := e
  exact ⟨⟨h1, h2, h3, h4⟩, h5, h6, h7, h8⟩
def cTy (K : PySem.W.Frag) (C : Addr) : Bool := bTys.all fun n => (kitOne K (.ref C) (.type n) == some false) && (kitOne K (.type n) (.ref C) == some false)
theorem cTy_ok {K : PySem.W.Frag} {C : Addr} (e : cTy K C = true) : (∀ n ∈ bTys, kitOne K (.ref C) (.type n) = some false) ∧ ∀ n ∈ bTys, kitOne K (.type n) (.ref C) = some false := by
  unfold cTy at e
  rw [List.all_eq_true] at e
  refine ⟨fun n hn => ?_, fun n hn => ?_⟩
  · have := e n hn
    rw [Bool.and_eq_true] at this
    simpa using this.1
  · have := e n hn
    rw [Bool.and_eq_true] at this
    simpa using this.2
def cNo (K : PySem.W.Frag) (C : Addr) (l : List Str) : Bool := l.all fun n => findIn K (.ref C) n == some none
theorem cNo_ok {K : PySem.W.Frag} {C : Addr} {l : List Str} (e : cNo K C l = true) : ∀ n ∈ l, NoAttr K C n := fun n hn => by
  have := List.all_eq_true.mp e n hn
  unfold NoAttr
  simpa using this
def cEq (K : PySem.W.Frag) (C : Addr) (tys : List Value) : Bool := (findIn K (.ref C) "__ne__" == some (some (.builtin "object.__ne__"))) && tys.all fun t => notFirst K C t
theorem cEq_ok {K : PySem.W.Frag} {C : Addr} {tys : List Value} (e : cEq K C tys = true) : findIn K (.ref C) "__ne__" = some (some (.builtin "object.__ne__")) ∧ ∀ t ∈ tys, notFirst K C t = true := by
  unfold cEq at e
  rw [Bool.and_eq_true, List.all_eq_true] at e
  exact ⟨by simpa using e.1, e.2⟩
theorem vals_rev : ∀ {vs : List V} {us : List Value}, Vals vs us → Vals vs.reverse us.reverse
  | _, _, .nil => .nil
  | _, _, .cons h t => by
    rw [List.reverse_cons, List.reverse_cons]
    exact (vals_rev t).append (.cons h .nil)
section
variable {P : Program} {w : World} {K : PySem.W.Frag} {mg : Str → Option Value} {base : Heap}
theorem fnID {x qual : Str} {st : Stmt} {f C : Addr} {fd : FuncData} {N ps : List Str} {dvs : List V} {k n : Nat} {G : FI} (F : FunD K x qual (defArgs st) (defBody st) (defScope st) dvs [] f fd) (S : FnScope N ps (defScope st)) (hps : ps.length = n + 1) (hlen : ∀ ds p, G ds p ≠ .no → ds.length = n) (hne : ∀ ds p C fs p', G ds p ≠ .ex C fs p')
    (hbody : ∀ (cdv : Value) (A : Around) (outer : List Env) (s : Shared) (H : Hp) (E : XK), Room k (A.deeper (envOfC qual (defScope st) s.heap.objs.size f cdv)) →
      ∃ g, DSs (cxOf CX0 P w K mg base N qual (defScope st) f cdv A outer s H E).nox W0 (defBody st) g ∧ ∀ x ds p, G ds p = .no ∨ runI (N.length - ps.length) C g x ds p = G ds p) : FnI P w K mg base CX0 (k + 1) f fd ps n C G := by
  refine ⟨F.ok S (fun vs H Q E h => h.1.trans hps.symm) fun cdv A outer s H vs Q E hr h => ?_, hlen⟩
  obtain ⟨g, hg, hle⟩ := hbody cdv A outer s H E hr
  have h' : spI K n C G vs H Q fun _ _ _ => False := by
    obtain ⟨hl, x, dx, us, P, ex, ds, p, e0, h0, h1, h2, h3, h4, h5⟩ := h
    refine ⟨hl, x, dx, us, P, ex, ds, p, e0, h0, h1, h2, h3, h4, ?_⟩
    cases q : G ds p with
    | ok d p' => rw [q] at h5; exact h5
    | ex C fs p' => exact (hne _ _ _ _ _ q).elim
    | no => rw [q] at h5; exact h5
  exact ⟨_, hg.nox, fin_runI hps hle (fun _ _ _ _ z => z) h'⟩
/-- a def with one default, a text -/
theorem funD_mk {x qual : Str} {st : Stmt} {f T : Addr} {oc : Value} {od an : Option Addr} {osl : Array (Option Value)} {kV doc pm cdv ct : Value} {z : Str} {tok : Tok} {cl : Value} {dd : Option Addr} {n : Nat} {sl : Array (Option Value)}
    (l : K.lookup f = some ⟨oc, od, .func (PySem.W.fnOf x qual (defArgs st) (defBody st) (defScope st) (.ref T) kV doc pm an cdv ct), osl⟩) (c : codeIn K cdv qual = true) (k : keepIn K (.ref f) = true) (lT : K.lookup T = some ⟨cl, dd, .seq #[.str z tok] n, sl⟩) :
    FunD K x qual (defArgs st) (defBody st) (defScope st) [.str z] [] f (PySem.W.fnOf x qual (defArgs st) (defBody st) (defScope st) (.ref T) kV doc pm an cdv ct) :=
  ⟨⟨oc, od, .ref T, kV, doc, pm, an, cdv, ct, osl, rfl, l, c, .inr ⟨by simp, T, _, [.str z tok], n, rfl, lT, rfl, .cons ⟨tok, rfl⟩ .nil⟩, .inl rfl⟩, k⟩
end
section
variable {P : Program} {w : World} {K : PySem.W.Frag} {mg : Str → Option Value} {base : Heap} {cs subs others : List Addr} {ok : Addr → Bool} {CM : Addr} {GM : FI}
abbrev s_m_same : Stmt := inClass (top8 33) 1
abbrev N_m_same : List Str := ["letters"]
theorem sc_m_same : FnScope N_m_same N_m_same (defScope s_m_same) := ⟨rfl, rfl, rfl, by decide +kernel, rfl, by decide +kernel, by decide +kernel⟩
def g_m_same (CM : Addr) (GM : FI) : DSt → OutS := gRet (gMakeK CM 2 0 fm2 GM (gCons (gPl gNd0) (gCons (gVar 0) gNil)) gNil)
theorem ok_m_same {f : Addr} {fd : FuncData} (F : Fun K "same" "Misreading.same" s_m_same f fd) (DM : MkAll P w K mg base "Misreading" CM 4 2 GM forms8) : FnD P w K mg base CX0 6 f fd N_m_same (FDof 1 0 (g_m_same CM GM)) :=
  fnD_of (k := 5) F sc_m_same fun cdv A outer s H E hr => by
    have hu64 := hr.units
    have hu1 := units1 hr.units
    exact (dss_one (ds_ret (de_mkX (na := 2) (ks := []) (gD := fm2) DM (by simp [forms8]) (hr.mono (by decide)) (by rfl) (da_cons (de_pl dn_dict0) (da_cons (dv 0) da_nil)) dk_nil')))
abbrev s_m_iter : Stmt := inClass (top8 33) 10
theorem sc_m_iter : FnScope ["self"] ["self"] (defScope s_m_iter) := ⟨rfl, rfl, rfl, by decide +kernel, rfl, by decide +kernel, by decide +kernel⟩
end
theorem kw_init {K : PySem.W.Frag} {f : Addr} {fd : FuncData} (F : FunD K "__init__" "Misreading.__init__" (defArgs s_m_init) (defBody s_m_init) (defScope s_m_init) [.str ""] [] f fd) : ∀ q ∈ forms8, KwOk K f fd PS_m_init q.1 q.2.1 q.2.2 := by
  intro q hq
  simp only [forms8, List.mem_cons, List.not_mem_nil, or_false] at hq
  rcases hq with rfl | rfl | rfl | rfl | rfl
  · obtain ⟨its, h⟩ := kbn_dfl (ps := PS_m_init) F 2 [] (fun us its _ => us ++ its) (by simp) (fun r1 r2 _ => r1.append r2) fun T kV doc pm an cdv ct us its ws l1 l2 l3 => match us, its, ws, l1, l2, l3 with | [_, _], [_], [], _, _, _ => ⟨_, rfl, rfl⟩
    exact ⟨⟨_, _, h, fun K P O H x vs zs ds es r _ _ _ => ⟨vs ++ [.str ""], rfl, r.append (.cons (.str _) .nil)⟩⟩⟩
  · obtain ⟨its, h⟩ := kbn_dfl (ps := PS_m_init) F 3 [] (fun us _ _ => us) (by simp) (fun r1 _ _ => r1) fun T kV doc pm an cdv ct us its ws l1 l2 l3 => match us, its, ws, l1, l2, l3 with | [_, _, _], [_], [], _, _, _ => ⟨_, rfl, rfl⟩
    exact ⟨⟨_, _, h, fun K P O H x vs zs ds es r _ _ _ => ⟨vs, rfl, r⟩⟩⟩
  · obtain ⟨its, h⟩ := kbn_dfl (ps := PS_m_init) F 2 ["keeps"] (fun us _ ws => us ++ ws) (by simp) (fun r1 _ r3 => r1.append r3) fun T kV doc pm an cdv ct us its ws l1 l2 l3 => match us, its, ws, l1, l2, l3 with | [_, _], [_], [_], _, _, _ => ⟨_, rfl, rfl⟩
    exact ⟨⟨_, _, h, fun K P O H x vs zs ds es r r2 _ _ => ⟨vs ++ zs, rfl, r.append r2⟩⟩⟩
  · obtain ⟨its, h⟩ := kbn_dfl (ps := PS_m_init) F 1 ["keeps", "images"] (fun us _ ws => us ++ ws.reverse) (by simp) (fun r1 _ r3 => r1.append (vals_rev r3)) fun T kV doc pm an cdv ct us its ws l1 l2 l3 => match us, its, ws, l1, l2, l3 with | [_], [_], [_, _], _, _, _ => ⟨_, rfl, rfl⟩
    refine ⟨⟨_, _, h, fun K P O H x vs zs ds es r r2 l1 _ => ⟨zs.reverse, ?_, Rps.reverse r2⟩⟩⟩
    cases vs with
    | nil => rfl
    | cons v vs =>
      have := r.length
      rw [l1] at this
      cases this
  · obtain ⟨its, h⟩ := kbn_dfl (ps := PS_m_init) F 1 ["images"] (fun us its ws => us ++ (ws ++ its)) (by simp) (fun r1 r2 r3 => r1.append (r3.append r2)) fun T kV doc pm an cdv ct us its ws l1 l2 l3 => match us, its, ws, l1, l2, l3 with | [_], [_], [_], _, _, _ => ⟨_, rfl, rfl⟩
    refine ⟨⟨_, _, h, fun K P O H x vs zs ds es r r2 l1 _ => ⟨zs ++ [.str ""], ?_, r2.append (.cons (.str _) .nil)⟩⟩⟩
    cases vs with
    | nil => rfl
    | cons v vs =>
      have := r.length
      rw [l1] at this
      cases this
section
variable {cs : List Addr} {CM : Addr} {ok : Addr → Bool}
theorem same_ok {GM : FI} (hmk : ∀ (d : Dat) (t : List (Str × Str)) (z : Str) (p : Pen), IsT d t → Good t → Wd z → z.length ≤ 2000 → (Due t z).length ≤ 12 → ∃ r, GM [d, .str z] p = .ok (flds r (Due t z)) p) (z : Str) (p : Pen) (hz : Wd z) (hl : z.length ≤ 2000) (h12 : (Due [] z).length ≤ 12) : ∃ r, FDof 1 0 (g_m_same CM GM) [.str z] p = .ok (mis CM r (Due [] z)) p := by
  obtain ⟨r, e⟩ := hmk (.dic (dK [])) [] z p (.inl rfl) good_nil hz hl h12
  refine ⟨r, fdof rfl ?_⟩
  show g_m_same CM GM ⟨[.d (.str z)], p⟩ = _
  have e' : GM [.dic [], .str z] p = .ok (flds r (Due [] z)) p := e
  simp only [g_m_same, gRet, gMakeK, gCons, gPl, gNd0, gVar, List.getElem?_cons_zero, gNil, Out.bind, Out.bindS, fm2, List.length_cons, List.length_nil, and_self, if_true, e', mis]
theorem sem8 {tys : List Value} (hok : ok CM = true) (h1 : tys.any (fun t => t == Value.ref CM) = true) (h2 : tys.any (fun t => t == Value.type "str") = true) (h3 : tys.any (fun t => t == Value.type "int") = true) (h4 : tys.any (fun t => t == Value.type "dict") = true) : Sem ok CM tys (FIof 2 2 CM (g_m_init cs [] [] CM ok)) (FDof 1 0 (g_m_same CM (FIof 2 2 CM (g_m_init cs [] [] CM ok)))) (FDof 2 0 (g_m_eq cs [] [] CM ok)) (FDof 2 0 (g_m_has cs [] [] CM ok)) (FDof 2 0 (g_m_get cs [] [] CM ok)) (FDof 1 0 (g_m_len cs [] [] CM ok)) (FDof 1 1 (g_m_str cs [] [] CM ok)) := by
  have hmk : ∀ (d : Dat) (t : List (Str × Str)) (z : Str) (p : Pen), IsT d t → Good t → Wd z → z.length ≤ 2000 → (Due t z).length ≤ 12 → ∃ r, FIof 2 2 CM (g_m_init cs [] [] CM ok) [d, .str z] p = .ok (flds r (Due t z)) p := fun d t z p hT hg hz hl h12 => by
    obtain ⟨r, e⟩ := init_run (cs := cs) (subs := []) (others := []) (p := p) hok hT hg hz hl h12
    exact ⟨r, fiof rfl e⟩
  exact ⟨hok, h1, h2, h3, h4, hmk, fun z p hz hl h12 => same_ok hmk z p hz hl h12, fun r d r' d' p => eq_mis hok, fun r d y p h => eq_oth h⟩
end
end BD
namespace BD
open PySem PySem.Spec PyProof.Rows L2
open PySem.W (nsIn findIn typeIn keepIn subIn mroIn clsIn hasDictIn specialIn takesIn kitOne exmOne alongIn codeIn plainGet plainOver notFirst isFn fnIn makesIn readsIn findCls recIn)
abbrev ok8 (CM : Addr) : Addr → Bool := fun c => c == CM
abbrev tys8 (CM : Addr) : List Value := [.ref CM, .type "str", .type "int", .type "dict"]
theorem fin8 {l : PySem.W.OpenLaw} {w : World} {K : PySem.W.Frag} {h : Heap} {mg : Str → Option Value} {fa CM pS TI fF0 fF1 fF2 fF3 fF4 fF5 fF6 fF7 fF8 fF9 fF10 fF11 fF12 fF13 fF14 fF15 fF16 fF17 fF18 fMget fMhas fMiter fMlen fMeq fMstr fMinit fMsame : Addr}
    {odF0 anF0 : Option Addr} {slF0 : Array (Option Value)} {ocF0 kVF0 dcF0 pmF0 cdF0 ctF0 : Value}
    {odF1 anF1 : Option Addr} {slF1 : Array (Option Value)} {ocF1 kVF1 dcF1 pmF1 cdF1 ctF1 : Value}
    {odF2 anF2 : Option Addr} {slF2 : Array (Option Value)} {ocF2 kVF2 dcF2 pmF2 cdF2 ctF2 : Value}
    {odF3 anF3 : Option Addr} {slF3 : Array (Option Value)} {ocF3 kVF3 dcF3 pmF3 cdF3 ctF3 : Value}
    {odF4 anF4 : Option Addr} {slF4 : Array (Option Value)} {ocF4 kVF4 dcF4 pmF4 cdF4 ctF4 : Value}
    {odF5 anF5 : Option Addr} {slF5 : Array (Option Value)} {ocF5 kVF5 dcF5 pmF5 cdF5 ctF5 : Value}
    {odF6 anF6 : Option Addr} {slF6 : Array (Option Value)} {ocF6 kVF6 dcF6 pmF6 cdF6 ctF6 : Value}
    {odF7 anF7 : Option Addr} {slF7 : Array (Option Value)} {ocF7 kVF7 dcF7 pmF7 cdF7 ctF7 : Value}
    {odF8 anF8 : Option Addr} {slF8 : Array (Option Value)} {ocF8 kVF8 dcF8 pmF8 cdF8 ctF8 : Value}
    {odF9 anF9 : Option Addr} {slF9 : Array (Option Value)} {ocF9 kVF9 dcF9 pmF9 cdF9 ctF9 : Value}
    {odF10 anF10 : Option Addr} {slF10 : Array (Option Value)} {ocF10 kVF10 dcF10 pmF10 cdF10 ctF10 : Value}
    {odF11 anF11 : Option Addr} {slF11 : Array (Option Value)} {ocF11 kVF11 dcF11 pmF11 cdF11 ctF11 : Value}
    {odF12 anF12 : Option Addr} {slF12 : Array (Option Value)} {ocF12 kVF12 dcF12 pmF12 cdF12 ctF12 : Value}
    {odF13 anF13 : Option Addr} {slF13 : Array (Option Value)} {ocF13 kVF13 dcF13 pmF13 cdF13 ctF13 : Value}
    {odF14 anF14 : Option Addr} {slF14 : Array (Option Value)} {ocF14 kVF14 dcF14 pmF14 cdF14 ctF14 : Value}
    {odF15 anF15 : Option Addr} {slF15 : Array (Option Value)} {ocF15 kVF15 dcF15 pmF15 cdF15 ctF15 : Value}
    {odF16 anF16 : Option Addr} {slF16 : Array (Option Value)} {ocF16 kVF16 dcF16 pmF16 cdF16 ctF16 : Value}
    {odF17 anF17 : Option Addr} {slF17 : Array (Option Value)} {ocF17 kVF17 dcF17 pmF17 cdF17 ctF17 : Value}
    {odF18 anF18 : Option Addr} {slF18 : Array (Option Value)} {ocF18 kVF18 dcF18 pmF18 cdF18 ctF18 : Value}
    {odMget anMget : Option Addr} {slMget : Array (Option Value)} {ocMget kVMget dcMget pmMget cdMget ctMget : Value}
    {odMhas anMhas : Option Addr} {slMhas : Array (Option Value)} {ocMhas kVMhas dcMhas pmMhas cdMhas ctMhas : Value}
    {odMiter anMiter : Option Addr} {slMiter : Array (Option Value)} {ocMiter kVMiter dcMiter pmMiter cdMiter ctMiter : Value}
    {odMlen anMlen : Option Addr} {slMlen : Array (Option Value)} {ocMlen kVMlen dcMlen pmMlen cdMlen ctMlen : Value}
    {odMeq anMeq : Option Addr} {slMeq : Array (Option Value)} {ocMeq kVMeq dcMeq pmMeq cdMeq ctMeq : Value}
    {odMstr anMstr : Option Addr} {slMstr : Array (Option Value)} {ocMstr kVMstr dcMstr pmMstr cdMstr ctMstr : Value}
    {odMinit anMinit : Option Addr} {slMinit : Array (Option Value)} {ocMinit kVMinit dcMinit pmMinit cdMinit ctMinit : Value}
    {clT : Value} {ddT : Option Addr} {nT : Nat} {slT : Array (Option Value)} {tkT : Tok}
    {restS : List Value}
    {odMsame anMsame : Option Addr} {slMsame : Array (Option Value)} {ocMsame kVMsame dcMsame pmMsame cdMsame ctMsame : Value}
    {t_LETTERS : Tok}
    {t_MOST_SIGNS : Tok}
    {t_MOST_IMAGE : Tok}
    {t_MOST_LETTERS : Tok}
    {t_MOST_COMPOSED : Tok}
    {t_MOST_TIMES : Tok}
    (X : K.In h) (G : h.Ns mainGlobals mg) (hfa : mg "law" = some (.ref fa))
    (aF0 : nsIn K mainGlobals "is_letter" = some (some (.ref fF0)))
    (lF0 : K.lookup fF0 = some ⟨ocF0, odF0, .func (PySem.W.fnOf "is_letter" "is_letter" (defArgs s_is_letter) (defBody s_is_letter) (defScope s_is_letter) .none kVF0 dcF0 pmF0 anF0 cdF0 ctF0), slF0⟩) (qF0 : codeIn K cdF0 "is_letter" = true) (kF0 : keepIn K (.ref fF0) = true)
    (aF1 : nsIn K mainGlobals "is_text" = some (some (.ref fF1)))
    (lF1 : K.lookup fF1 = some ⟨ocF1, odF1, .func (PySem.W.fnOf "is_text" "is_text" (defArgs s_is_text) (defBody s_is_text) (defScope s_is_text) .none kVF1 dcF1 pmF1 anF1 cdF1 ctF1), slF1⟩) (qF1 : codeIn K cdF1 "is_text" = true) (kF1 : keepIn K (.ref fF1) = true)
    (aF2 : nsIn K mainGlobals "is_image" = some (some (.ref fF2)))
    (lF2 : K.lookup fF2 = some ⟨ocF2, odF2, .func (PySem.W.fnOf "is_image" "is_image" (defArgs s_is_image) (defBody s_is_image) (defScope s_is_image) .none kVF2 dcF2 pmF2 anF2 cdF2 ctF2), slF2⟩) (qF2 : codeIn K cdF2 "is_image" = true) (kF2 : keepIn K (.ref fF2) = true)
    (aF3 : nsIn K mainGlobals "need_images" = some (some (.ref fF3)))
    (lF3 : K.lookup fF3 = some ⟨ocF3, odF3, .func (PySem.W.fnOf "need_images" "need_images" (defArgs s_need_images) (defBody s_need_images) (defScope s_need_images) .none kVF3 dcF3 pmF3 anF3 cdF3 ctF3), slF3⟩) (qF3 : codeIn K cdF3 "need_images" = true) (kF3 : keepIn K (.ref fF3) = true)
    (aF4 : nsIn K mainGlobals "kept_images" = some (some (.ref fF4)))
    (lF4 : K.lookup fF4 = some ⟨ocF4, odF4, .func (PySem.W.fnOf "kept_images" "kept_images" (defArgs s_kept_images) (defBody s_kept_images) (defScope s_kept_images) .none kVF4 dcF4 pmF4 anF4 cdF4 ctF4), slF4⟩) (qF4 : codeIn K cdF4 "kept_images" = true) (kF4 : keepIn K (.ref fF4) = true)
    (aF5 : nsIn K mainGlobals "need_few" = some (some (.ref fF5)))
    (lF5 : K.lookup fF5 = some ⟨ocF5, odF5, .func (PySem.W.fnOf "need_few" "need_few" (defArgs s_need_few) (defBody s_need_few) (defScope s_need_few) .none kVF5 dcF5 pmF5 anF5 cdF5 ctF5), slF5⟩) (qF5 : codeIn K cdF5 "need_few" = true) (kF5 : keepIn K (.ref fF5) = true)
    (aF6 : nsIn K mainGlobals "in_order" = some (some (.ref fF6)))
    (lF6 : K.lookup fF6 = some ⟨ocF6, odF6, .func (PySem.W.fnOf "in_order" "in_order" (defArgs s_in_order) (defBody s_in_order) (defScope s_in_order) .none kVF6 dcF6 pmF6 anF6 cdF6 ctF6), slF6⟩) (qF6 : codeIn K cdF6 "in_order" = true) (kF6 : keepIn K (.ref fF6) = true)
    (aF7 : nsIn K mainGlobals "letters_in" = some (some (.ref fF7)))
    (lF7 : K.lookup fF7 = some ⟨ocF7, odF7, .func (PySem.W.fnOf "letters_in" "letters_in" (defArgs s_letters_in) (defBody s_letters_in) (defScope s_letters_in) .none kVF7 dcF7 pmF7 anF7 cdF7 ctF7), slF7⟩) (qF7 : codeIn K cdF7 "letters_in" = true) (kF7 : keepIn K (.ref fF7) = true)
    (aF8 : nsIn K mainGlobals "_law_pen" = some (some (.ref fF8)))
    (lF8 : K.lookup fF8 = some ⟨ocF8, odF8, .func (PySem.W.fnOf "_law_pen" "_law_pen" (defArgs sPen) (defBody sPen) (defScope sPen) .none kVF8 dcF8 pmF8 anF8 cdF8 ctF8), slF8⟩) (qF8 : codeIn K cdF8 "_law_pen" = true) (kF8 : keepIn K (.ref fF8) = true)
    (aF9 : nsIn K mainGlobals "_law_draw" = some (some (.ref fF9)))
    (lF9 : K.lookup fF9 = some ⟨ocF9, odF9, .func (PySem.W.fnOf "_law_draw" "_law_draw" (defArgs sDraw) (defBody sDraw) (defScope sDraw) .none kVF9 dcF9 pmF9 anF9 cdF9 ctF9), slF9⟩) (qF9 : codeIn K cdF9 "_law_draw" = true) (kF9 : keepIn K (.ref fF9) = true)
    (aF10 : nsIn K mainGlobals "_law_pick" = some (some (.ref fF10)))
    (lF10 : K.lookup fF10 = some ⟨ocF10, odF10, .func (PySem.W.fnOf "_law_pick" "_law_pick" (defArgs s__law_pick) (defBody s__law_pick) (defScope s__law_pick) .none kVF10 dcF10 pmF10 anF10 cdF10 ctF10), slF10⟩) (qF10 : codeIn K cdF10 "_law_pick" = true) (kF10 : keepIn K (.ref fF10) = true)
    (aF11 : nsIn K mainGlobals "_law_some_letters" = some (some (.ref fF11)))
    (lF11 : K.lookup fF11 = some ⟨ocF11, odF11, .func (PySem.W.fnOf "_law_some_letters" "_law_some_letters" (defArgs s__law_some_letters) (defBody s__law_some_letters) (defScope s__law_some_letters) .none kVF11 dcF11 pmF11 anF11 cdF11 ctF11), slF11⟩) (qF11 : codeIn K cdF11 "_law_some_letters" = true) (kF11 : keepIn K (.ref fF11) = true)
    (aF12 : nsIn K mainGlobals "_law_escaped" = some (some (.ref fF12)))
    (lF12 : K.lookup fF12 = some ⟨ocF12, odF12, .func (PySem.W.fnOf "_law_escaped" "_law_escaped" (defArgs s__law_escaped) (defBody s__law_escaped) (defScope s__law_escaped) .none kVF12 dcF12 pmF12 anF12 cdF12 ctF12), slF12⟩) (qF12 : codeIn K cdF12 "_law_escaped" = true) (kF12 : keepIn K (.ref fF12) = true)
    (aF13 : nsIn K mainGlobals "_law_any_image" = some (some (.ref fF13)))
    (lF13 : K.lookup fF13 = some ⟨ocF13, odF13, .func (PySem.W.fnOf "_law_any_image" "_law_any_image" (defArgs s__law_any_image) (defBody s__law_any_image) (defScope s__law_any_image) .none kVF13 dcF13 pmF13 anF13 cdF13 ctF13), slF13⟩) (qF13 : codeIn K cdF13 "_law_any_image" = true) (kF13 : keepIn K (.ref fF13) = true)
    (aF14 : nsIn K mainGlobals "_law_table" = some (some (.ref fF14)))
    (lF14 : K.lookup fF14 = some ⟨ocF14, odF14, .func (PySem.W.fnOf "_law_table" "_law_table" (defArgs s__law_table) (defBody s__law_table) (defScope s__law_table) .none kVF14 dcF14 pmF14 anF14 cdF14 ctF14), slF14⟩) (qF14 : codeIn K cdF14 "_law_table" = true) (kF14 : keepIn K (.ref fF14) = true)
    (aF15 : nsIn K mainGlobals "_law_due" = some (some (.ref fF15)))
    (lF15 : K.lookup fF15 = some ⟨ocF15, odF15, .func (PySem.W.fnOf "_law_due" "_law_due" (defArgs s__law_due) (defBody s__law_due) (defScope s__law_due) .none kVF15 dcF15 pmF15 anF15 cdF15 ctF15), slF15⟩) (qF15 : codeIn K cdF15 "_law_due" = true) (kF15 : keepIn K (.ref fF15) = true)
    (aF16 : nsIn K mainGlobals "_law_right" = some (some (.ref fF16)))
    (lF16 : K.lookup fF16 = some ⟨ocF16, odF16, .func (PySem.W.fnOf "_law_right" "_law_right" (defArgs s__law_right) (defBody s__law_right) (defScope s__law_right) .none kVF16 dcF16 pmF16 anF16 cdF16 ctF16), slF16⟩) (qF16 : codeIn K cdF16 "_law_right" = true) (kF16 : keepIn K (.ref fF16) = true)
    (aF17 : nsIn K mainGlobals "_law_other_right" = some (some (.ref fF17)))
    (lF17 : K.lookup fF17 = some ⟨ocF17, odF17, .func (PySem.W.fnOf "_law_other_right" "_law_other_right" (defArgs s__law_other_right) (defBody s__law_other_right) (defScope s__law_other_right) .none kVF17 dcF17 pmF17 anF17 cdF17 ctF17), slF17⟩) (qF17 : codeIn K cdF17 "_law_other_right" = true) (kF17 : keepIn K (.ref fF17) = true)
    (aF18 : nsIn K mainGlobals "law" = some (some (.ref fF18)))
    (lF18 : K.lookup fF18 = some ⟨ocF18, odF18, .func (PySem.W.fnOf "law" "law" (defArgs sLaw) (defBody sLaw) (defScope sLaw) .none kVF18 dcF18 pmF18 anF18 cdF18 ctF18), slF18⟩) (qF18 : codeIn K cdF18 "law" = true) (kF18 : keepIn K (.ref fF18) = true)
    (aC : nsIn K mainGlobals "Misreading" = some (some (.ref CM)))
    (aMget : findIn K (.ref CM) "__getitem__" = some (some (.ref fMget))) (iMget : isFn K (.ref fMget) = true) (nMget : fnIn K fMget = true)
    (lMget : K.lookup fMget = some ⟨ocMget, odMget, .func (PySem.W.fnOf "__getitem__" "Misreading.__getitem__" (defArgs s_m_get) (defBody s_m_get) (defScope s_m_get) .none kVMget dcMget pmMget anMget cdMget ctMget), slMget⟩) (qMget : codeIn K cdMget "Misreading.__getitem__" = true) (kMget : keepIn K (.ref fMget) = true)
    (aMhas : findIn K (.ref CM) "__contains__" = some (some (.ref fMhas))) (iMhas : isFn K (.ref fMhas) = true) (nMhas : fnIn K fMhas = true)
    (lMhas : K.lookup fMhas = some ⟨ocMhas, odMhas, .func (PySem.W.fnOf "__contains__" "Misreading.__contains__" (defArgs s_m_has) (defBody s_m_has) (defScope s_m_has) .none kVMhas dcMhas pmMhas anMhas cdMhas ctMhas), slMhas⟩) (qMhas : codeIn K cdMhas "Misreading.__contains__" = true) (kMhas : keepIn K (.ref fMhas) = true)
    (aMiter : findIn K (.ref CM) "__iter__" = some (some (.ref fMiter))) (iMiter : isFn K (.ref fMiter) = true) (nMiter : fnIn K fMiter = true)
    (lMiter : K.lookup fMiter = some ⟨ocMiter, odMiter, .func (PySem.W.fnOf "__iter__" "Misreading.__iter__" (defArgs s_m_iter) (defBody s_m_iter) (defScope s_m_iter) .none kVMiter dcMiter pmMiter anMiter cdMiter ctMiter), slMiter⟩) (qMiter : codeIn K cdMiter "Misreading.__iter__" = true) (kMiter : keepIn K (.ref fMiter) = true)
    (aMlen : findIn K (.ref CM) "__len__" = some (some (.ref fMlen))) (iMlen : isFn K (.ref fMlen) = true) (nMlen : fnIn K fMlen = true)
    (lMlen : K.lookup fMlen = some ⟨ocMlen, odMlen, .func (PySem.W.fnOf "__len__" "Misreading.__len__" (defArgs s_m_len) (defBody s_m_len) (defScope s_m_len) .none kVMlen dcMlen pmMlen anMlen cdMlen ctMlen), slMlen⟩) (qMlen : codeIn K cdMlen "Misreading.__len__" = true) (kMlen : keepIn K (.ref fMlen) = true)
    (aMeq : findIn K (.ref CM) "__eq__" = some (some (.ref fMeq))) (iMeq : isFn K (.ref fMeq) = true) (nMeq : fnIn K fMeq = true)
    (lMeq : K.lookup fMeq = some ⟨ocMeq, odMeq, .func (PySem.W.fnOf "__eq__" "Misreading.__eq__" (defArgs s_m_eq) (defBody s_m_eq) (defScope s_m_eq) .none kVMeq dcMeq pmMeq anMeq cdMeq ctMeq), slMeq⟩) (qMeq : codeIn K cdMeq "Misreading.__eq__" = true) (kMeq : keepIn K (.ref fMeq) = true)
    (aMstr : findIn K (.ref CM) "__str__" = some (some (.ref fMstr))) (iMstr : isFn K (.ref fMstr) = true) (nMstr : fnIn K fMstr = true)
    (lMstr : K.lookup fMstr = some ⟨ocMstr, odMstr, .func (PySem.W.fnOf "__str__" "Misreading.__str__" (defArgs s_m_str) (defBody s_m_str) (defScope s_m_str) .none kVMstr dcMstr pmMstr anMstr cdMstr ctMstr), slMstr⟩) (qMstr : codeIn K cdMstr "Misreading.__str__" = true) (kMstr : keepIn K (.ref fMstr) = true)
    (aMinit : findIn K (.ref CM) "__init__" = some (some (.ref fMinit))) (iMinit : isFn K (.ref fMinit) = true)
    (lMinit : K.lookup fMinit = some ⟨ocMinit, odMinit, .func (PySem.W.fnOf "__init__" "Misreading.__init__" (defArgs s_m_init) (defBody s_m_init) (defScope s_m_init) (.ref TI) kVMinit dcMinit pmMinit anMinit cdMinit ctMinit), slMinit⟩) (qMinit : codeIn K cdMinit "Misreading.__init__" = true) (kMinit : keepIn K (.ref fMinit) = true)
    (lT : K.lookup TI = some ⟨clT, ddT, .seq #[.str "" tkT] nT, slT⟩)
    (sR : readsIn K CM (.type "type") = true) (sG : specialIn K (.ref CM) "__getattribute__" = some (some (.builtin "type.__getattribute__"))) (sA : findCls K (.ref CM) (.type "type") "same" = some (.get (.builtin "staticmethod.__get__") (.ref pS) .none (.ref CM))) (sC : recIn K pS "staticmethod" = some (.ref fMsame :: restS))
    (lMsame : K.lookup fMsame = some ⟨ocMsame, odMsame, .func (PySem.W.fnOf "same" "Misreading.same" (defArgs s_m_same) (defBody s_m_same) (defScope s_m_same) .none kVMsame dcMsame pmMsame anMsame cdMsame ctMsame), slMsame⟩) (qMsame : codeIn K cdMsame "Misreading.same" = true) (kMsame : keepIn K (.ref fMsame) = true)
    (mk : makesIn K CM = true) (kC : keepIn K (.ref CM) = true)
    (c1 : cIns K CM = true) (c2 : cTy K CM = true) (c3 : cNo K CM ["images", "letters", "reached", "changed"] = true) (c4 : cEq K CM (tys8 CM) = true)
    (n_int : nsIn K mainGlobals "int" = some none)
    (n_len : nsIn K mainGlobals "len" = some none)
    (n_abs : nsIn K mainGlobals "abs" = some none)
    (n_list : nsIn K mainGlobals "list" = some none)
    (n_range : nsIn K mainGlobals "range" = some none)
    (n_enumerate : nsIn K mainGlobals "enumerate" = some none)
    (n_isinstance : nsIn K mainGlobals "isinstance" = some none)
    (n_str : nsIn K mainGlobals "str" = some none)
    (n_sorted : nsIn K mainGlobals "sorted" = some none)
    (n_set : nsIn K mainGlobals "set" = some none)
    (n_tuple : nsIn K mainGlobals "tuple" = some none)
    (n_dict : nsIn K mainGlobals "dict" = some none)
    (n_iter : nsIn K mainGlobals "iter" = some none)
    (n_bool : nsIn K mainGlobals "bool" = some none)
    (n_all : nsIn K mainGlobals "all" = some none)
    (v_LETTERS : nsIn K mainGlobals "LETTERS" = some (some (.str "abcdefghijklmnopqrstuvwxyz" t_LETTERS)))
    (v_MOST_SIGNS : nsIn K mainGlobals "MOST_SIGNS" = some (some (.int 2000 t_MOST_SIGNS)))
    (v_MOST_IMAGE : nsIn K mainGlobals "MOST_IMAGE" = some (some (.int 4 t_MOST_IMAGE)))
    (v_MOST_LETTERS : nsIn K mainGlobals "MOST_LETTERS" = some (some (.int 12 t_MOST_LETTERS)))
    (v_MOST_COMPOSED : nsIn K mainGlobals "MOST_COMPOSED" = some (some (.int 64 t_MOST_COMPOSED)))
    (v_MOST_TIMES : nsIn K mainGlobals "MOST_TIMES" = some (some (.int 99 t_MOST_TIMES)))
    : ∃ fd : FuncData, (∀ (s : Shared) (v : Value), BindsTo s fd ⟨[v], []⟩ [("_law_script", v)]) ∧ ∀ base : Heap, K.In base → base.Ns mainGlobals mg → FnOk l.prog w K mg base CX0 8 fa fd ["_law_script"] (spLaw K) := by
  have T : Nm mg := ⟨PySem.W.mg_none_of X G n_int, PySem.W.mg_none_of X G n_len, PySem.W.mg_none_of X G n_abs, PySem.W.mg_none_of X G n_list, PySem.W.mg_none_of X G n_range, PySem.W.mg_none_of X G n_enumerate, PySem.W.mg_none_of X G n_isinstance, PySem.W.mg_none_of X G n_str, PySem.W.mg_none_of X G n_sorted, PySem.W.mg_none_of X G n_set, PySem.W.mg_none_of X G n_tuple, PySem.W.mg_none_of X G n_dict, PySem.W.mg_none_of X G n_iter, PySem.W.mg_none_of X G n_bool, PySem.W.mg_none_of X G n_all⟩
  have Cs : Cst mg := ⟨⟨_, PySem.W.mg_of X G v_LETTERS⟩, ⟨_, PySem.W.mg_of X G v_MOST_SIGNS⟩, ⟨_, PySem.W.mg_of X G v_MOST_IMAGE⟩, ⟨_, PySem.W.mg_of X G v_MOST_LETTERS⟩, ⟨_, PySem.W.mg_of X G v_MOST_COMPOSED⟩, ⟨_, PySem.W.mg_of X G v_MOST_TIMES⟩⟩
  have hI : InsK K CM := cIns_ok c1
  obtain ⟨ty1, ty2⟩ := cTy_ok c2
  have nA := cNo_ok c3
  obtain ⟨eN, eT⟩ := cEq_ok c4
  have hcs : OwnTy K [CM] := fun c hc => by
    rw [show c = CM by simpa using hc]
    exact ⟨hI, ty1⟩
  have hMC : MisC K CM := ⟨⟨hI.cl, nA _ (by simp)⟩, ⟨hI.cl, nA _ (by simp)⟩, ⟨hI.cl, nA _ (by simp)⟩, ⟨hI.cl, nA _ (by simp)⟩⟩
  have okE : ∀ C, ok8 CM C = true → C = CM := fun C h => by simpa [ok8] using h
  have hM : ∀ C, ok8 CM C = true → MisC K C := fun C h => by rw [okE C h]; exact hMC
  have mM := PySem.W.mg_of X G aC
  have hK : KitOk K (.ref CM) (kitC CM [] []) := kitC_ok hI ty2 (fun c hc => nomatch hc) (fun c hc => nomatch hc)
  have GF0 := fun_mk (st := s_is_letter) lF0 qF0 kF0
  have bF0 := GF0.binds (ps := PS_is_letter) fun _ _ _ _ _ _ us hl => match us, hl with | [_], _ => rfl
  have gF0 := PySem.W.mg_of X G aF0
  have GF1 := fun_mk (st := s_is_text) lF1 qF1 kF1
  have bF1 := GF1.binds (ps := PS_is_text) fun _ _ _ _ _ _ us hl => match us, hl with | [_], _ => rfl
  have gF1 := PySem.W.mg_of X G aF1
  have GF2 := fun_mk (st := s_is_image) lF2 qF2 kF2
  have bF2 := GF2.binds (ps := PS_is_image) fun _ _ _ _ _ _ us hl => match us, hl with | [_], _ => rfl
  have gF2 := PySem.W.mg_of X G aF2
  have GF3 := fun_mk (st := s_need_images) lF3 qF3 kF3
  have bF3 := GF3.binds (ps := PS_need_images) fun _ _ _ _ _ _ us hl => match us, hl with | [_], _ => rfl
  have gF3 := PySem.W.mg_of X G aF3
  have GF4 := fun_mk (st := s_kept_images) lF4 qF4 kF4
  have bF4 := GF4.binds (ps := PS_kept_images) fun _ _ _ _ _ _ us hl => match us, hl with | [_, _], _ => rfl
  have gF4 := PySem.W.mg_of X G aF4
  have GF5 := fun_mk (st := s_need_few) lF5 qF5 kF5
  have bF5 := GF5.binds (ps := PS_need_few) fun _ _ _ _ _ _ us hl => match us, hl with | [_], _ => rfl
  have gF5 := PySem.W.mg_of X G aF5
  have GF6 := fun_mk (st := s_in_order) lF6 qF6 kF6
  have bF6 := GF6.binds (ps := PS_in_order) fun _ _ _ _ _ _ us hl => match us, hl with | [_], _ => rfl
  have gF6 := PySem.W.mg_of X G aF6
  have GF7 := fun_mk (st := s_letters_in) lF7 qF7 kF7
  have bF7 := GF7.binds (ps := PS_letters_in) fun _ _ _ _ _ _ us hl => match us, hl with | [_], _ => rfl
  have gF7 := PySem.W.mg_of X G aF7
  have GF8 := fun_mk (st := sPen) lF8 qF8 kF8
  have bF8 := GF8.binds (ps := ["_law_script"]) fun _ _ _ _ _ _ us hl => match us, hl with | [_], _ => rfl
  have gF8 := PySem.W.mg_of X G aF8
  have GF9 := fun_mk (st := sDraw) lF9 qF9 kF9
  have bF9 := GF9.binds (ps := ["_law_pen_here", "_law_many"]) fun _ _ _ _ _ _ us hl => match us, hl with | [_, _], _ => rfl
  have gF9 := PySem.W.mg_of X G aF9
  have GF10 := fun_mk (st := s__law_pick) lF10 qF10 kF10
  have bF10 := GF10.binds (ps := PS__law_pick) fun _ _ _ _ _ _ us hl => match us, hl with | [_, _], _ => rfl
  have gF10 := PySem.W.mg_of X G aF10
  have GF11 := fun_mk (st := s__law_some_letters) lF11 qF11 kF11
  have bF11 := GF11.binds (ps := PS__law_some_letters) fun _ _ _ _ _ _ us hl => match us, hl with | [_, _], _ => rfl
  have gF11 := PySem.W.mg_of X G aF11
  have GF12 := fun_mk (st := s__law_escaped) lF12 qF12 kF12
  have bF12 := GF12.binds (ps := PS__law_escaped) fun _ _ _ _ _ _ us hl => match us, hl with | [_, _], _ => rfl
  have gF12 := PySem.W.mg_of X G aF12
  have GF13 := fun_mk (st := s__law_any_image) lF13 qF13 kF13
  have bF13 := GF13.binds (ps := PS__law_any_image) fun _ _ _ _ _ _ us hl => match us, hl with | [_, _], _ => rfl
  have gF13 := PySem.W.mg_of X G aF13
  have GF14 := fun_mk (st := s__law_table) lF14 qF14 kF14
  have bF14 := GF14.binds (ps := PS__law_table) fun _ _ _ _ _ _ us hl => match us, hl with | [_, _], _ => rfl
  have gF14 := PySem.W.mg_of X G aF14
  have GF15 := fun_mk (st := s__law_due) lF15 qF15 kF15
  have bF15 := GF15.binds (ps := PS__law_due) fun _ _ _ _ _ _ us hl => match us, hl with | [_, _], _ => rfl
  have gF15 := PySem.W.mg_of X G aF15
  have GF16 := fun_mk (st := s__law_right) lF16 qF16 kF16
  have bF16 := GF16.binds (ps := PS__law_right) fun _ _ _ _ _ _ us hl => match us, hl with | [_, _], _ => rfl
  have gF16 := PySem.W.mg_of X G aF16
  have GF17 := fun_mk (st := s__law_other_right) lF17 qF17 kF17
  have bF17 := GF17.binds (ps := PS__law_other_right) fun _ _ _ _ _ _ us hl => match us, hl with | [_, _, _], _ => rfl
  have gF17 := PySem.W.mg_of X G aF17
  have GF18 := fun_mk (st := sLaw) lF18 qF18 kF18
  have GMget := fun_mk (st := s_m_get) lMget qMget kMget
  have bMget := GMget.binds (ps := PS_m_get) fun _ _ _ _ _ _ us hl => match us, hl with | [_, _], _ => rfl
  have GMhas := fun_mk (st := s_m_has) lMhas qMhas kMhas
  have bMhas := GMhas.binds (ps := PS_m_has) fun _ _ _ _ _ _ us hl => match us, hl with | [_, _], _ => rfl
  have GMiter := fun_mk (st := s_m_iter) lMiter qMiter kMiter
  have bMiter := GMiter.binds (ps := ["self"]) fun _ _ _ _ _ _ us hl => match us, hl with | [_], _ => rfl
  have GMlen := fun_mk (st := s_m_len) lMlen qMlen kMlen
  have bMlen := GMlen.binds (ps := PS_m_len) fun _ _ _ _ _ _ us hl => match us, hl with | [_], _ => rfl
  have GMeq := fun_mk (st := s_m_eq) lMeq qMeq kMeq
  have bMeq := GMeq.binds (ps := PS_m_eq) fun _ _ _ _ _ _ us hl => match us, hl with | [_, _], _ => rfl
  have GMstr := fun_mk (st := s_m_str) lMstr qMstr kMstr
  have bMstr := GMstr.binds (ps := PS_m_str) fun _ _ _ _ _ _ us hl => match us, hl with | [_], _ => rfl
  have GMinit := funD_mk (st := s_m_init) lMinit qMinit kMinit lT
  have GMsame := fun_mk (st := s_m_same) lMsame qMsame kMsame
  have bMsame := GMsame.binds (ps := N_m_same) fun _ _ _ _ _ _ us hl => match us, hl with | [_], _ => rfl
  have e := hfa.symm.trans (PySem.W.mg_of X G aF18)
  cases e
  refine ⟨_, fun s v => BindsTo.of_eq (fd := PySem.W.fnOf "law" "law" (defArgs sLaw) (defBody sLaw) (defScope sLaw) .none kVF18 dcF18 pmF18 anF18 cdF18 ctF18) rfl, fun base _ _ => ?_⟩
  have DF0 : DefOk l.prog w K mg base "is_letter" 1 PS_is_letter (F_is_letter [CM]) := defOk (ok_is_letter GF0 T Cs hcs) (fun _ _ _ _ _ => fdof_ne _ _ _ _ _) gF0 kF0 bF0
  have DF1 : DefOk l.prog w K mg base "is_text" 1 PS_is_text (F_is_text [CM]) := defOk (ok_is_text GF1 T Cs hcs) (fun _ _ _ _ _ => fdof_ne _ _ _ _ _) gF1 kF1 bF1
  have DF2 : DefOk l.prog w K mg base "is_image" 2 PS_is_image (F_is_image [CM]) := defOk (ok_is_image GF2 T Cs hcs DF1) (fun _ _ _ _ _ => fdof_ne _ _ _ _ _) gF2 kF2 bF2
  have DF3 : DefOk l.prog w K mg base "need_images" 3 PS_need_images (F_need_images [CM]) := defOk (ok_need_images GF3 T Cs hcs DF0 DF2) (fun _ _ _ _ _ => fdof_ne _ _ _ _ _) gF3 kF3 bF3
  have DF4 : DefOk l.prog w K mg base "kept_images" 1 PS_kept_images (F_kept_images [CM]) := defOk (ok_kept_images GF4 T Cs hcs) (fun _ _ _ _ _ => fdof_ne _ _ _ _ _) gF4 kF4 bF4
  have DF5 : DefOk l.prog w K mg base "need_few" 1 PS_need_few (F_need_few [CM]) := defOk (ok_need_few GF5 T Cs hcs) (fun _ _ _ _ _ => fdof_ne _ _ _ _ _) gF5 kF5 bF5
  have DF6 : DefOk l.prog w K mg base "in_order" 1 PS_in_order (F_in_order [CM]) := defOk (ok_in_order GF6 T Cs hcs) (fun _ _ _ _ _ => fdof_ne _ _ _ _ _) gF6 kF6 bF6
  have DF7 : DefOk l.prog w K mg base "letters_in" 1 PS_letters_in (F_letters_in [CM]) := defOk (ok_letters_in GF7 T Cs hcs) (fun _ _ _ _ _ => fdof_ne _ _ _ _ _) gF7 kF7 bF7
  have FI : FnI l.prog w K mg base CX0 4 fMinit _ PS_m_init 2 CM (FIof 2 2 CM (g_m_init [CM] [] [] CM (ok8 CM))) := fnID (k := 3) GMinit sc_m_init rfl fiof_len fiof_ne fun cdv A outer s H E hr => ⟨g_m_init [CM] [] [] CM (ok8 CM), der_m_init T Cs hcs hM mM hK DF3 DF4 DF5 DF6 DF7 DF1 hr, fiof_le⟩
  have DM : MkAll l.prog w K mg base "Misreading" CM 4 2 (FIof 2 2 CM (g_m_init [CM] [] [] CM (ok8 CM))) forms8 := ⟨mM, fiof_ne, fMinit, _, PS_m_init, ⟨mk, aMinit, iMinit, kC⟩, FI, kw_init GMinit⟩
  have DS : StOk l.prog w K mg base "Misreading" "same" CM 6 ["letters"] (FDof 1 0 (g_m_same CM (FIof 2 2 CM (g_m_init [CM] [] [] CM (ok8 CM))))) := ⟨mM, (fun _ _ _ _ _ => fdof_ne _ _ _ _ _), .type "type", pS, fMsame, _, ⟨sR, sG, sA, ⟨_, sC⟩, kMsame⟩, ok_m_same GMsame DM, bMsame, _, _, kbn_all (ps := N_m_same) GMsame 0 ["letters"] (fun us ws => us ++ ws) (fun r1 r2 => r1.append r2) (fun kV doc pm an cdv ct us ws l1 l2 => match us, ws, l1, l2 with | [], [_], _, _ => rfl), fun K P O H vs zs ds es r r2 l1 _ => by
    cases vs with
    | nil => exact r2
    | cons v vs =>
      have := r.length
      rw [l1] at this
      cases this⟩
  have DMget : Dun l.prog w K mg base (ok8 CM) "__getitem__" 2 ["self", "letter"] (FDof 2 0 (g_m_get [CM] [] [] CM (ok8 CM))) := ⟨⟨fMget, _, fnD_of (k := 1) GMget sc_m_get (fun cdv A outer s H E hr => der_m_get T Cs hcs hM mM hK DF0 hr), bMget, (fun C h => by rw [okE C h]; exact aMget), iMget, nMget⟩, fun _ _ _ _ _ => fdof_ne _ _ _ _ _⟩
  have DMhas : Dun l.prog w K mg base (ok8 CM) "__contains__" 1 ["self", "value"] (FDof 2 0 (g_m_has [CM] [] [] CM (ok8 CM))) := ⟨⟨fMhas, _, fnD_of (k := 0) GMhas sc_m_has (fun cdv A outer s H E hr => der_m_has T Cs hcs hM mM hK hr), bMhas, (fun C h => by rw [okE C h]; exact aMhas), iMhas, nMhas⟩, fun _ _ _ _ _ => fdof_ne _ _ _ _ _⟩
  have DMlen : Dun l.prog w K mg base (ok8 CM) "__len__" 1 ["self"] (FDof 1 0 (g_m_len [CM] [] [] CM (ok8 CM))) := ⟨⟨fMlen, _, fnD_of (k := 0) GMlen sc_m_len (fun cdv A outer s H E hr => der_m_len T Cs hcs hM mM hK hr), bMlen, (fun C h => by rw [okE C h]; exact aMlen), iMlen, nMlen⟩, fun _ _ _ _ _ => fdof_ne _ _ _ _ _⟩
  have DMstr : Dun l.prog w K mg base (ok8 CM) "__str__" 1 ["self"] (FDof 1 1 (g_m_str [CM] [] [] CM (ok8 CM))) := ⟨⟨fMstr, _, fnD_of (k := 0) GMstr sc_m_str (fun cdv A outer s H E hr => der_m_str T Cs hcs hM mM hK hr), bMstr, (fun C h => by rw [okE C h]; exact aMstr), iMstr, nMstr⟩, fun _ _ _ _ _ => fdof_ne _ _ _ _ _⟩
  have DMeq : DunEq l.prog w K mg base (ok8 CM) (tys8 CM) 1 ["self", "other"] (FDof 2 0 (g_m_eq [CM] [] [] CM (ok8 CM))) := ⟨⟨fMeq, _, fnD_of (k := 0) GMeq sc_m_eq (fun cdv A outer s H E hr => der_m_eq T Cs hcs hM mM hK hr), bMeq, (fun C h => by rw [okE C h]; exact ⟨aMeq, eN, hI.hm, eT, hI⟩), iMeq⟩, (fun _ _ _ _ _ => fdof_ne _ _ _ _ _), fun C hC => by
    rw [show C = CM by simpa [tys8] using hC]
    exact hI⟩
  have DI : DunIt l.prog w K mg base (ok8 CM) "letters" 1 := ⟨fMiter, (fun C h => by
    rw [okE C h]
    exact itFn (k := 0) GMiter sc_m_iter bMiter hMC.letters fun cdv A outer s H E => pss_one (ps_ret (pe_callB (id := "iter") call_iterTN (by rfl) T.iter (by decide +kernel) (pa_cons (pe_fld (pv 0) (by rfl)) pa_nil)))), (fun C h => by rw [okE C h]; exact aMiter), iMiter⟩
  have DF9 : DefOk l.prog w K mg base "_law_draw" 1 ["_law_pen_here", "_law_many"] (drawF dc) := defOk (ok_draw (k := 0) GF9 T) (fun _ _ _ _ _ => drawF_ne _ _ _ _ _) gF9 kF9 bF9
  have DF10 := defOk (ok__law_pick (ok := ok8 CM) (CM := CM) (tys := tys8 CM) (GM := FIof 2 2 CM (g_m_init [CM] [] [] CM (ok8 CM))) (GS := FDof 1 0 (g_m_same CM (FIof 2 2 CM (g_m_init [CM] [] [] CM (ok8 CM))))) (GE := FDof 2 0 (g_m_eq [CM] [] [] CM (ok8 CM))) (GH := FDof 2 0 (g_m_has [CM] [] [] CM (ok8 CM))) (GG_ := FDof 2 0 (g_m_get [CM] [] [] CM (ok8 CM))) (GL := FDof 1 0 (g_m_len [CM] [] [] CM (ok8 CM))) (GT := FDof 1 1 (g_m_str [CM] [] [] CM (ok8 CM))) (base := base) (w := w) (P := l.prog) GF10 T hM DF9) (fun _ _ _ _ _ => fdof_ne _ _ _ _ _) gF10 kF10 bF10
  have DF11 := defOk (ok__law_some_letters (ok := ok8 CM) (CM := CM) (tys := tys8 CM) (GM := FIof 2 2 CM (g_m_init [CM] [] [] CM (ok8 CM))) (GS := FDof 1 0 (g_m_same CM (FIof 2 2 CM (g_m_init [CM] [] [] CM (ok8 CM))))) (GE := FDof 2 0 (g_m_eq [CM] [] [] CM (ok8 CM))) (GH := FDof 2 0 (g_m_has [CM] [] [] CM (ok8 CM))) (GG_ := FDof 2 0 (g_m_get [CM] [] [] CM (ok8 CM))) (GL := FDof 1 0 (g_m_len [CM] [] [] CM (ok8 CM))) (GT := FDof 1 1 (g_m_str [CM] [] [] CM (ok8 CM))) (base := base) (w := w) (P := l.prog) GF11 T hM DF9) (fun _ _ _ _ _ => fdof_ne _ _ _ _ _) gF11 kF11 bF11
  have DF12 := defOk (ok__law_escaped (ok := ok8 CM) (CM := CM) (tys := tys8 CM) (GM := FIof 2 2 CM (g_m_init [CM] [] [] CM (ok8 CM))) (GS := FDof 1 0 (g_m_same CM (FIof 2 2 CM (g_m_init [CM] [] [] CM (ok8 CM))))) (GE := FDof 2 0 (g_m_eq [CM] [] [] CM (ok8 CM))) (GH := FDof 2 0 (g_m_has [CM] [] [] CM (ok8 CM))) (GG_ := FDof 2 0 (g_m_get [CM] [] [] CM (ok8 CM))) (GL := FDof 1 0 (g_m_len [CM] [] [] CM (ok8 CM))) (GT := FDof 1 1 (g_m_str [CM] [] [] CM (ok8 CM))) (base := base) (w := w) (P := l.prog) GF12 T hM DF9) (fun _ _ _ _ _ => fdof_ne _ _ _ _ _) gF12 kF12 bF12
  have DF13 := defOk (ok__law_any_image (ok := ok8 CM) (CM := CM) (tys := tys8 CM) (GM := FIof 2 2 CM (g_m_init [CM] [] [] CM (ok8 CM))) (GS := FDof 1 0 (g_m_same CM (FIof 2 2 CM (g_m_init [CM] [] [] CM (ok8 CM))))) (GE := FDof 2 0 (g_m_eq [CM] [] [] CM (ok8 CM))) (GH := FDof 2 0 (g_m_has [CM] [] [] CM (ok8 CM))) (GG_ := FDof 2 0 (g_m_get [CM] [] [] CM (ok8 CM))) (GL := FDof 1 0 (g_m_len [CM] [] [] CM (ok8 CM))) (GT := FDof 1 1 (g_m_str [CM] [] [] CM (ok8 CM))) (base := base) (w := w) (P := l.prog) GF13 T hM DF10) (fun _ _ _ _ _ => fdof_ne _ _ _ _ _) gF13 kF13 bF13
  have DF14 := defOk (ok__law_table (ok := ok8 CM) (CM := CM) (tys := tys8 CM) (GM := FIof 2 2 CM (g_m_init [CM] [] [] CM (ok8 CM))) (GS := FDof 1 0 (g_m_same CM (FIof 2 2 CM (g_m_init [CM] [] [] CM (ok8 CM))))) (GE := FDof 2 0 (g_m_eq [CM] [] [] CM (ok8 CM))) (GH := FDof 2 0 (g_m_has [CM] [] [] CM (ok8 CM))) (GG_ := FDof 2 0 (g_m_get [CM] [] [] CM (ok8 CM))) (GL := FDof 1 0 (g_m_len [CM] [] [] CM (ok8 CM))) (GT := FDof 1 1 (g_m_str [CM] [] [] CM (ok8 CM))) (base := base) (w := w) (P := l.prog) GF14 T hM DF9 DF12 DF13) (fun _ _ _ _ _ => fdof_ne _ _ _ _ _) gF14 kF14 bF14
  have DF15 := defOk (ok__law_due (ok := ok8 CM) (CM := CM) (tys := tys8 CM) (GM := FIof 2 2 CM (g_m_init [CM] [] [] CM (ok8 CM))) (GS := FDof 1 0 (g_m_same CM (FIof 2 2 CM (g_m_init [CM] [] [] CM (ok8 CM))))) (GE := FDof 2 0 (g_m_eq [CM] [] [] CM (ok8 CM))) (GH := FDof 2 0 (g_m_has [CM] [] [] CM (ok8 CM))) (GG_ := FDof 2 0 (g_m_get [CM] [] [] CM (ok8 CM))) (GL := FDof 1 0 (g_m_len [CM] [] [] CM (ok8 CM))) (GT := FDof 1 1 (g_m_str [CM] [] [] CM (ok8 CM))) (base := base) (w := w) (P := l.prog) GF15 T hM ) (fun _ _ _ _ _ => fdof_ne _ _ _ _ _) gF15 kF15 bF15
  have DF16 := defOk (ok__law_right (ok := ok8 CM) (CM := CM) (tys := tys8 CM) (GM := FIof 2 2 CM (g_m_init [CM] [] [] CM (ok8 CM))) (GS := FDof 1 0 (g_m_same CM (FIof 2 2 CM (g_m_init [CM] [] [] CM (ok8 CM))))) (GE := FDof 2 0 (g_m_eq [CM] [] [] CM (ok8 CM))) (GH := FDof 2 0 (g_m_has [CM] [] [] CM (ok8 CM))) (GG_ := FDof 2 0 (g_m_get [CM] [] [] CM (ok8 CM))) (GL := FDof 1 0 (g_m_len [CM] [] [] CM (ok8 CM))) (GT := FDof 1 1 (g_m_str [CM] [] [] CM (ok8 CM))) (base := base) (w := w) (P := l.prog) GF16 T hM DI DMhas DMget DMlen DMstr) (fun _ _ _ _ _ => fdof_ne _ _ _ _ _) gF16 kF16 bF16
  have DF17 := defOk (ok__law_other_right (ok := ok8 CM) (CM := CM) (tys := tys8 CM) (GM := FIof 2 2 CM (g_m_init [CM] [] [] CM (ok8 CM))) (GS := FDof 1 0 (g_m_same CM (FIof 2 2 CM (g_m_init [CM] [] [] CM (ok8 CM))))) (GE := FDof 2 0 (g_m_eq [CM] [] [] CM (ok8 CM))) (GH := FDof 2 0 (g_m_has [CM] [] [] CM (ok8 CM))) (GG_ := FDof 2 0 (g_m_get [CM] [] [] CM (ok8 CM))) (GL := FDof 1 0 (g_m_len [CM] [] [] CM (ok8 CM))) (GT := FDof 1 1 (g_m_str [CM] [] [] CM (ok8 CM))) (base := base) (w := w) (P := l.prog) GF17 T hM DM DS DMeq DMstr DF10) (fun _ _ _ _ _ => fdof_ne _ _ _ _ _) gF17 kF17 bF17
  have S : Sem (ok8 CM) CM (tys8 CM) (FIof 2 2 CM (g_m_init [CM] [] [] CM (ok8 CM))) (FDof 1 0 (g_m_same CM (FIof 2 2 CM (g_m_init [CM] [] [] CM (ok8 CM))))) (FDof 2 0 (g_m_eq [CM] [] [] CM (ok8 CM))) (FDof 2 0 (g_m_has [CM] [] [] CM (ok8 CM))) (FDof 2 0 (g_m_get [CM] [] [] CM (ok8 CM))) (FDof 1 0 (g_m_len [CM] [] [] CM (ok8 CM))) (FDof 1 1 (g_m_str [CM] [] [] CM (ok8 CM))) := sem8 (by simp [ok8]) (by simp [tys8]) (by simp [tys8]) (by simp [tys8]) (by simp [tys8])
  exact ok_law (ok := ok8 CM) (CM := CM) (tys := tys8 CM) (GM := FIof 2 2 CM (g_m_init [CM] [] [] CM (ok8 CM))) (GS := FDof 1 0 (g_m_same CM (FIof 2 2 CM (g_m_init [CM] [] [] CM (ok8 CM))))) (GE := FDof 2 0 (g_m_eq [CM] [] [] CM (ok8 CM))) (GH := FDof 2 0 (g_m_has [CM] [] [] CM (ok8 CM))) (GG_ := FDof 2 0 (g_m_get [CM] [] [] CM (ok8 CM))) (GL := FDof 1 0 (g_m_len [CM] [] [] CM (ok8 CM))) (GT := FDof 1 1 (g_m_str [CM] [] [] CM (ok8 CM))) (base := base) GF18 T hM GF8 gF8 bF8 DM DS DMeq DMlen DF11 DF16 DF9 DF14 DF15 DF10 DF17 (fun ns _ => hlaw_ok S ns)
end BD
open PySem PySem.W PyProof.Rows
set_option maxRecDepth 100000 in
set_option maxHeartbeats 0 in
theorem PySem.Challenge.cw_blindrepair_k08_misreadings_made_holds : PySem.Challenge.rw_blindrepair_k08_misreadings_made.Holds := by
  w_on
  o_law
  k_head
  (case hw => w_witness2)
  k_fill
  refine L2.walk_of (l := PySem.Challenge.rw_blindrepair_k08_misreadings_made) (n := 63) (k := 8) (x := "_law_script") (CX := fun _ => L2.CX0) (sp := fun w => BD.spLaw _) rfl (by decide) rfl ⟨rfl, by decide, by decide⟩ (fun w h Y => PySem.W.kIn_of Y) ?F (fun _ _ a ns hl _ hS => ⟨a, ns, rfl, hS, hl, fun _ => rfl⟩) (fun _ _ _ _ _ z => z)
  case F =>
    intro w mg fa h KX G hmg
    refine' BD.fin8 KX G hmg ?aF0 ?lF0 ?qF0 ?kF0 ?aF1 ?lF1 ?qF1 ?kF1 ?aF2 ?lF2 ?qF2 ?kF2 ?aF3 ?lF3 ?qF3 ?kF3 ?aF4 ?lF4 ?qF4 ?kF4 ?aF5 ?lF5 ?qF5 ?kF5 ?aF6 ?lF6 ?qF6 ?kF6 ?aF7 ?lF7 ?qF7 ?kF7 ?aF8 ?lF8 ?qF8 ?kF8 ?aF9 ?lF9 ?qF9 ?kF9 ?aF10 ?lF10 ?qF10 ?kF10 ?aF11 ?lF11 ?qF11 ?kF11 ?aF12 ?lF12 ?qF12 ?kF12 ?aF13 ?lF13 ?qF13 ?kF13 ?aF14 ?lF14 ?qF14 ?kF14 ?aF15 ?lF15 ?qF15 ?kF15 ?aF16 ?lF16 ?qF16 ?kF16 ?aF17 ?lF17 ?qF17 ?kF17 ?aF18 ?lF18 ?qF18 ?kF18 ?aC ?aMget ?iMget ?nMget ?lMget ?qMget ?kMget ?aMhas ?iMhas ?nMhas ?lMhas ?qMhas ?kMhas ?aMiter ?iMiter ?nMiter ?lMiter ?qMiter ?kMiter ?aMlen ?iMlen ?nMlen ?lMlen ?qMlen ?kMlen ?aMeq ?iMeq ?nMeq ?lMeq ?qMeq ?kMeq ?aMstr ?iMstr ?nMstr ?lMstr ?qMstr ?kMstr ?aMinit ?iMinit ?lMinit ?qMinit ?kMinit ?lT ?sR ?sG ?sA ?sC ?lMsame ?qMsame ?kMsame ?mk ?kC ?c1 ?c2 ?c3 ?c4 ?n_int ?n_len ?n_abs ?n_list ?n_range ?n_enumerate ?n_isinstance ?n_str ?n_sorted ?n_set ?n_tuple ?n_dict ?n_iter ?n_bool ?n_all ?v_LETTERS ?v_MOST_SIGNS ?v_MOST_IMAGE ?v_MOST_LETTERS ?v_MOST_COMPOSED ?v_MOST_TIMES
    (case aF0 => k_is)
    (case lF0 => k_is)
    (case qF0 => k_is)
    (case kF0 => k_is)
    (case aF1 => k_is)
    (case lF1 => k_is)
    (case qF1 => k_is)
    (case kF1 => k_is)
    (case aF2 => k_is)
    (case lF2 => k_is)
    (case qF2 => k_is)
    (case kF2 => k_is)
    (case aF3 => k_is)
    (case lF3 => k_is)
    (case qF3 => k_is)
    (case kF3 => k_is)
    (case aF4 => k_is)
    (case lF4 => k_is)
    (case qF4 => k_is)
    (case kF4 => k_is)
    (case aF5 => k_is)
    (case lF5 => k_is)
    (case qF5 => k_is)
    (case kF5 => k_is)
    (case aF6 => k_is)
    (case lF6 => k_is)
    (case qF6 => k_is)
    (case kF6 => k_is)
    (case aF7 => k_is)
    (case lF7 => k_is)
    (case qF7 => k_is)
    (case kF7 => k_is)
    (case aF8 => k_is)
    (case lF8 => k_is)
    (case qF8 => k_is)
    (case kF8 => k_is)
    (case aF9 => k_is)
    (case lF9 => k_is)
    (case qF9 => k_is)
    (case kF9 => k_is)
    (case aF10 => k_is)
    (case lF10 => k_is)
    (case qF10 => k_is)
    (case kF10 => k_is)
    (case aF11 => k_is)
    (case lF11 => k_is)
    (case qF11 => k_is)
    (case kF11 => k_is)
    (case aF12 => k_is)
    (case lF12 => k_is)
    (case qF12 => k_is)
    (case kF12 => k_is)
    (case aF13 => k_is)
    (case lF13 => k_is)
    (case qF13 => k_is)
    (case kF13 => k_is)
    (case aF14 => k_is)
    (case lF14 => k_is)
    (case qF14 => k_is)
    (case kF14 => k_is)
    (case aF15 => k_is)
    (case lF15 => k_is)
    (case qF15 => k_is)
    (case kF15 => k_is)
    (case aF16 => k_is)
    (case lF16 => k_is)
    (case qF16 => k_is)
    (case kF16 => k_is)
    (case aF17 => k_is)
    (case lF17 => k_is)
    (case qF17 => k_is)
    (case kF17 => k_is)
    (case aF18 => k_is)
    (case lF18 => k_is)
    (case qF18 => k_is)
    (case kF18 => k_is)
    (case aC => k_is)
    (case aMget => k_is)
    (case iMget => k_is)
    (case nMget => k_is)
    (case lMget => k_is)
    (case qMget => k_is)
    (case kMget => k_is)
    (case aMhas => k_is)
    (case iMhas => k_is)
    (case nMhas => k_is)
    (case lMhas => k_is)
    (case qMhas => k_is)
    (case kMhas => k_is)
    (case aMiter => k_is)
    (case iMiter => k_is)
    (case nMiter => k_is)
    (case lMiter => k_is)
    (case qMiter => k_is)
    (case kMiter => k_is)
    (case aMlen => k_is)
    (case iMlen => k_is)
    (case nMlen => k_is)
    (case lMlen => k_is)
    (case qMlen => k_is)
    (case kMlen => k_is)
    (case aMeq => k_is)
    (case iMeq => k_is)
    (case nMeq => k_is)
    (case lMeq => k_is)
    (case qMeq => k_is)
    (case kMeq => k_is)
    (case aMstr => k_is)
    (case iMstr => k_is)
    (case nMstr => k_is)
    (case lMstr => k_is)
    (case qMstr => k_is)
    (case kMstr => k_is)
    (case aMinit => k_is)
    (case iMinit => k_is)
    (case lMinit => k_is)
    (case qMinit => k_is)
    (case kMinit => k_is)
    (case lT => k_is)
    (case sR => k_is)
    (case sG => k_is)
    (case sA => k_is)
    (case sC => k_is)
    (case lMsame => k_is)
    (case qMsame => k_is)
    (case kMsame => k_is)
    (case mk => k_is)
    (case kC => k_is)
    (case c1 => kernel_rfl)
    (case c2 => kernel_rfl)
    (case c3 => kernel_rfl)
    (case c4 => kernel_rfl)
    (case n_int => k_is)
    (case n_len => k_is)
    (case n_abs => k_is)
    (case n_list => k_is)
    (case n_range => k_is)
    (case n_enumerate => k_is)
    (case n_isinstance => k_is)
    (case n_str => k_is)
    (case n_sorted => k_is)
    (case n_set => k_is)
    (case n_tuple => k_is)
    (case n_dict => k_is)
    (case n_iter => k_is)
    (case n_bool => k_is)
    (case n_all => k_is)
    (case v_LETTERS => k_is)
    (case v_MOST_SIGNS => k_is)
    (case v_MOST_IMAGE => k_is)
    (case v_MOST_LETTERS => k_is)
    (case v_MOST_COMPOSED => k_is)
    (case v_MOST_TIMES => k_is)
